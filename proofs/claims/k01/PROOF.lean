import PyProof.Rows.All
import Wide.All
import OpenK.AllK
import Wide.FinOn
import PySem.Syntax
import HandS.Head0
import HandS.Head1
import HandS.Head2
import HandS.Head3
import HandS.HeadHook1
import HandS.HeadHook2
import HandS.HeadHook3
import HandS.HeadHook4
import KE.KStateDown
import HandS.ForMost
import HandS.ForExc
import HandS.CallSlots
import HandS.Conv
import HandS.TupAny
import HandS.TupMul
import HandS.Style
import HandS.IsInst
import HandS.Wide
import HandS.Deep
import HandS.Zip
import HandS.SortInts
import HandS.Defaults
import HandS.Flow
import HandS.Lambda
import HandS.ExcCtx
import HandS.HotCalls
import HandS.Dict
import HandS.TupSets
import KE.IntTextLaws
import HandS.RaiseMore
import HandS.SetFor
import HandS.Strs
import KE.GoesEnum
import KE.GoesComp
import KE.GoesMore
import PyProof.RulesMatch
import HandS.ExcIs
import HandS.HeadEnd
import HandS.EndTab
import PyProof.Rows.ReprOcc
import PyProof.Rows.RegStrFacts
import PySem.Challenge.RW_anycautious_k01_contracts_and_people_rec
set_option Elab.async false
set_option linter.all false
section
set_option linter.all false
/-! MiniPy: pure data, a small language, its evaluator. -/
namespace MP
open PySem (Str)

/-- pure data -/
inductive D where
  | non | bl (b : Bool) | int (i : Int) | str (x : Str)
  | tup (ds : List D) | lst (ds : List D)
  | frz (ns : List Int)
  | fn (x : Str)
  | dic (kvs : List (Str × Int))

/-- an error: the name of its class -/
structure Ex where
  cls : Str

inductive Out (α : Type) where
  | ok (a : α) | err (e : Ex) | bad

def Out.bind {α β : Type} : Out α → (α → Out β) → Out β
  | .ok a, f => f a
  | .err e, _ => .err e
  | .bad, _ => .bad

def noErr {α : Type} : Out α → Out α
  | .err _ => .bad
  | .ok a => .ok a
  | .bad => .bad

/-- what an expression gives: data, or a new list that nothing else holds -/
inductive R where
  | v (d : D) | o (ds : List D)
def R.d : R → D
  | .v d => d
  | .o ds => .lst ds

/-- a slot: not bound; data; a list of one's own; a dict of one's own (its keys tuples of numbers) -/
inductive Sl where
  | un | fz (d : D) | ow (ds : List D) | od (kvs : List (List Int × D))
abbrev En := List Sl

inductive Op2 where
  | add | sub | mul | fdiv | mod | pow
inductive CO where
  | eq | ne | lt | le | gt | ge | is_ | isnot | in_ | notin
inductive Ty where
  | int | bool | str | tuple | list
inductive BI where
  | len | abs | int | bool | str | list | tuple | sum | max2 | min2 | sset
  | split | join | upper
inductive Tg where
  | nm (i : Nat) | tp2 (a b : Tg) | tp3 (a b c : Tg)

mutual
inductive ME where
  | var (i : Nat) | con (d : D)
  | tup (es : MEs) | lst (es : MEs)
  | neg (a : ME) | bin (o : Op2) (a b : ME) | cmp (o : CO) (a b : ME) | chain (o1 o2 : CO) (a b c : ME)
  | and (a b : ME) | or (a b : ME) | not (a : ME) | ife (c : MT) (a b : ME)
  | ix (a i : ME) | ixv (s : Nat) (i : ME) | sl (a : ME) (lo hi : MO) | rev (a : ME)
  | call (f : Str) (es : MEs) | callo (f : Str) (i : Nat) (es : MEs) | callb (f : Str) (is : List Nat) | callv (fs : List Str) (i : Nat) (es : MEs)
  | bi (b : BI) (es : MEs) | lenv (i : Nat) | isi (tys : List Ty) (a : ME)
  | kget (kvs : List (Str × Int)) (a b : ME) | kin (neg : Bool) (kvs : List (Str × Int)) (a : ME) | kix (kvs : List (Str × Int)) (a : ME)
  | tget (o a b : ME) | ddisp (kvs : List (Str × Int))
  | dget (i : Nat) (a b : ME) | dix (s : Nat) (i : ME) | dlist (i : Nat)
  | comp (tg : Tg) (src : Src) (c : MC) (elt : ME) (vs : List Nat)
  | comp2 (tg : Tg) (src : Src) (tg2 : Tg) (src2 : ME) (elt : ME) (vs vs2 : List Nat)
  | tryn (f : Str) (a : ME)
  | isx (c : Str) | hsel (a b : ME)
inductive MT where
  | v (e : ME) | and (a b : MT) | or (a b : MT) | not (a : MT)
inductive MC where
  | none | some (a : MT)
inductive MEs where
  | nil | cons (h : ME) (t : MEs)
inductive MO where
  | none | some (a : ME)
inductive Src where
  | v (e : ME) | r1 (a : ME) | r2 (a b : ME) | en (a : ME) | zp (a b : ME)
end

mutual
inductive MS where
  | expr (e : ME) | asg (i : Nat) (own : Bool) (e : ME) | asgt (t : Tg) (e : ME) | par (is : List (Nat × Bool)) (es : MEs)
  | setix (i : Nat) (ix e : ME) | app (i : Nat) (e : ME) | dset (i : Nat) (k e : ME) | dnew (i : Nat)
  | ret (e : ME) | retv (i : Nat) | retn
  | iff (c : MT) (a b : MB) | whil (c : MT) (b : MB) | forr (t : Tg) (s : Src) (b : MB)
  | rais (x : Str) | never | pass
inductive MB where
  | nil | cons (s : MS) (b : MB)
end

/-! ### sizes -/
def line : Nat := 16777216
/-- i * j is in the model's reach -/
def mulOk (i j : Int) : Bool :=
  (decide (-(2 ^ 64) < i) && decide (i < 2 ^ 64)) || (decide (-(2 ^ 64) < j) && decide (j < 2 ^ 64)) || decide (i.natAbs.log2 + j.natAbs.log2 < 1000000)
def divOk (j : Int) : Bool := decide (0 < j) && decide (j.natAbs.log2 < 9000)
def strOk (x : Str) : Bool := x.cps.all (fun c => c < 128)

/-! ### data -/
mutual
/-- plain data, at most so deep -/
def sh : Nat → D → Bool
  | _, .non | _, .bl _ | _, .int _ => true
  | _, .str x => strOk x
  | 0, .tup _ | 0, .lst _ => false
  | n + 1, .tup ds => shs n ds
  | n + 1, .lst ds => shs n ds
  | _, .frz _ | _, .fn _ | _, .dic _ => false
def shs : Nat → List D → Bool
  | _, [] => true
  | n, d :: ds => sh n d && shs n ds
end
mutual
/-- Python's == -/
def dq : D → D → Bool
  | .non, .non => true
  | .bl a, .bl b => a == b
  | .bl a, .int j => (if a then 1 else 0) == j
  | .int i, .bl b => i == (if b then 1 else 0)
  | .int i, .int j => i == j
  | .str x, .str y => x == y
  | .tup xs, .tup ys => dqs xs ys
  | .lst xs, .lst ys => dqs xs ys
  | _, _ => false
def dqs : List D → List D → Bool
  | [], [] => true
  | x :: xs, y :: ys => dq x y && dqs xs ys
  | _, _ => false
end
def truth : D → Out Bool
  | .non => .ok false
  | .bl b => .ok b
  | .int i => .ok (i != 0)
  | .str x => if x.cps.size ≤ line then .ok (x.cps.size != 0) else .bad
  | .tup ds => .ok (!ds.isEmpty)
  | .lst ds => .ok (!ds.isEmpty)
  | _ => .bad

def isTy : D → Ty → Bool
  | .int _, .int => true
  | .bl _, .int => true
  | .bl _, .bool => true
  | .str _, .str => true
  | .tup _, .tuple => true
  | .lst _, .list => true
  | _, _ => false
def tyOk : D → Bool
  | .frz _ | .fn _ | .dic _ => false
  | _ => true

def rep (n : Nat) (ds : List D) : List D := (List.replicate n ds).flatten

def b2 (b : Bool) : Int := if b then 1 else 0
/-- a text, so many times -/
def repS (n : Nat) (x : Str) : Str := ⟨(List.replicate n x.cps).foldl (· ++ ·) #[]⟩
def bin2 : Op2 → D → D → Out R
  | .add, .int i, .int j => .ok (.v (.int (i + j)))
  | .add, .str x, .str y => if x.cps.size + y.cps.size ≤ line then .ok (.v (.str (x ++ y))) else .bad
  | .add, .lst x, .lst y => if x.length + y.length ≤ line then .ok (.o (x ++ y)) else .bad
  | .add, .tup x, .tup y => if x.length + y.length ≤ line then .ok (.v (.tup (x ++ y))) else .bad
  | .add, .bl b, .int j => .ok (.v (.int (b2 b + j)))
  | .sub, .int i, .int j => .ok (.v (.int (i - j)))
  | .sub, .bl b, .int j => .ok (.v (.int (b2 b - j)))
  | .mul, .int i, .int j => if mulOk i j then .ok (.v (.int (i * j))) else .bad
  | .mul, .lst x, .int j => if decide (-(2 ^ 63) ≤ j) && decide (j < 2 ^ 63) && decide (x.length * j.toNat ≤ line) then .ok (.o (rep j.toNat x)) else .bad
  | .mul, .tup x, .int j => if !x.isEmpty && decide (2 ≤ j) && decide (j ≤ 1000) && decide (x.length ≤ 1000) then .ok (.v (.tup (rep j.toNat x))) else .bad
  | .mul, .str x, .int j => if decide (0 < x.cps.size) && decide (2 ≤ j) && decide (j ≤ 1000) && decide (x.cps.size ≤ 1000) then .ok (.v (.str (repS j.toNat x))) else .bad
  | .mul, .int i, .bl b => .ok (.v (.int (i * b2 b)))
  | .fdiv, .int i, .int j => if divOk j then .ok (.v (.int (i / j))) else .bad
  | .mod, .int i, .int j => if decide (0 < j) then .ok (.v (.int (i % j))) else .bad
  | .pow, .int i, .int j => if decide (0 ≤ j) && decide (j ≤ 1000000) && decide (i.natAbs < 2 ^ 64) then .ok (.v (.int (i ^ j.toNat))) else .bad
  | _, _, _ => .bad

def look (kvs : List (Str × Int)) (x : Str) : Option Int := match kvs with
  | [] => none
  | (k, d) :: r => if k = x then some d else look r x
def isIn (x : D) : List D → Bool
  | [] => false
  | y :: ys => dq y x || isIn x ys
/-- a sign in a text -/
def signIn (x y : Str) : Out Bool := match x.cps.toList with
  | [c] => .ok (decide (c ∈ y.cps.toList))
  | _ => .bad

def cmp2 : CO → D → D → Out Bool
  | .eq, a, b => if sh 60 a && sh 60 b then .ok (dq a b) else .bad
  | .ne, a, b => if sh 60 a && sh 60 b then .ok (!dq a b) else .bad
  | .lt, .int i, .int j => .ok (decide (i < j))
  | .le, .int i, .int j => .ok (decide (i ≤ j))
  | .gt, .int i, .int j => .ok (decide (j < i))
  | .ge, .int i, .int j => .ok (decide (j ≤ i))
  | .is_, a, .non => .ok (match a with | .non => true | _ => false)
  | .isnot, a, .non => .ok (match a with | .non => false | _ => true)
  | .is_, .bl a, .bl b => .ok (a == b)
  | .isnot, .bl a, .bl b => .ok (!(a == b))
  | .in_, a, .lst ds => if sh 60 a && shs 60 ds then .ok (isIn a ds) else .bad
  | .notin, a, .lst ds => if sh 60 a && shs 60 ds then .ok (!isIn a ds) else .bad
  | .in_, a, .tup ds => if sh 0 a && shs 0 ds then .ok (isIn a ds) else .bad
  | .notin, a, .tup ds => if sh 0 a && shs 0 ds then .ok (!isIn a ds) else .bad
  | .in_, .str x, .dic kvs => .ok (look kvs x).isSome
  | .notin, .str x, .dic kvs => .ok (!(look kvs x).isSome)
  | .in_, .str x, .str y => signIn x y
  | .notin, .str x, .str y => (signIn x y).bind fun b => .ok (!b)
  | _, _, _ => .bad

/-- the place that an index means -/
def place (n : Nat) (i : Int) : Option Nat := if 0 ≤ i then (if i < n then some i.toNat else none) else if -(n : Int) ≤ i then some (i + n).toNat else none
def at_ {α : Type} (xs : List α) (i : Int) : Option α := (place xs.length i).bind fun j => xs[j]?
def item : D → D → Out D
  | .tup ds, .int i => match at_ ds i with | some d => .ok d | none => .bad
  | .lst ds, .int i => match at_ ds i with | some d => .ok d | none => .bad
  | .frz ns, .int i => match at_ ns i with | some d => .ok (.int d) | none => .bad
  | .dic kvs, .str x => match look kvs x with | some n => .ok (.int n) | none => .bad
  | .str x, .int i => if x.cps.size ≤ line then (match at_ x.cps.toList i with | some c => .ok (.str ⟨#[c]⟩) | none => .bad) else .bad
  | _, _ => .bad
def sIx (n d : Nat) : Option Int → Nat
  | none => d
  | some v => if v < 0 then (v + (n : Int)).toNat else min v.toNat n
def cut {α : Type} (xs : List α) (lo hi : Option Int) : List α := (xs.drop (sIx xs.length 0 lo)).take (sIx xs.length xs.length hi - sIx xs.length 0 lo)
def slice (a : D) (lo hi : Option Int) : Out R := match a with
  | .lst ds => .ok (.o (cut ds lo hi))
  | .tup ds => .ok (.v (.tup (cut ds lo hi)))
  | .str x => if x.cps.size ≤ line then .ok (.v (.str ⟨(cut x.cps.toList lo hi).toArray⟩)) else .bad
  | _ => .bad

/-! ### texts -/
def digits (n : Nat) : List Nat := (Nat.toDigits 10 n).map Char.toNat
def ofInt (i : Int) : Str := PySem.Str.ofString (toString i)
/-- the value of plain figures, perhaps behind a minus -/
def figs (acc : Nat) : List Nat → Option Nat
  | [] => some acc
  | c :: r => if 48 ≤ c ∧ c ≤ 57 then figs (10 * acc + (c - 48)) r else none
def toInt (x : Str) : Option Int := match x.cps.toList with
  | [] => none
  | c :: r => if c = 45 then (if r.isEmpty then none else (figs 0 r).map fun n => -(n : Int)) else (figs 0 (c :: r)).map fun n => (n : Int)
def splitOn (c : Nat) (acc : List Nat) : List Nat → List (List Nat)
  | [] => [acc.reverse]
  | x :: r => if x = c then acc.reverse :: splitOn c [] r else splitOn c (x :: acc) r
def joinS (s : List Nat) : List (List Nat) → List Nat
  | [] => []
  | [x] => x
  | x :: r => x ++ s ++ joinS s r
def upper (x : List Nat) : List Nat := x.map fun c => if 97 ≤ c ∧ c ≤ 122 then c - 32 else c

def intsD : List D → Option (List Int)
  | [] => some []
  | .int i :: r => (intsD r).bind fun l => some (i :: l)
  | _ => none
def strsD : List D → Option (List (List Nat))
  | [] => some []
  | .str x :: r => (strsD r).bind fun l => some (x.cps.toList :: l)
  | _ => none
/-- sorted, each once -/
def insI (x : Int) : List Int → List Int
  | [] => [x]
  | y :: r => if x < y then x :: y :: r else if x = y then y :: r else y :: insI x r
def sortI : List Int → List Int
  | [] => []
  | x :: r => insI x (sortI r)
def S (l : List Nat) : D := .str ⟨l.toArray⟩
def sumLen : List (List Nat) → Nat
  | [] => 0
  | x :: r => x.length + 1 + sumLen r

def blen : D → Out R
  | .lst ds => .ok (.v (.int ds.length))
  | .tup ds => .ok (.v (.int ds.length))
  | .frz ns => .ok (.v (.int ns.length))
  | .str x => if x.cps.size ≤ line then .ok (.v (.int x.cps.size)) else .bad
  | _ => .bad
def bint : D → Out R
  | .int i => .ok (.v (.int i))
  | .bl b => .ok (.v (.int (if b then 1 else 0)))
  | .str x => if x.cps.size ≤ 640 then (match toInt x with | some n => .ok (.v (.int n)) | none => .bad) else .bad
  | _ => .bad
def bbool : D → Out R
  | .int i => .ok (.v (.bl (i != 0)))
  | .bl b => .ok (.v (.bl b))
  | _ => .bad
def bstr : D → Out R
  | .int i => if i.natAbs.log2 < 1920 then .ok (.v (.str (ofInt i))) else .bad
  | .str x => .ok (.v (.str x))
  | .bl b => .ok (.v (.str (if b then PySem.Str.ofString "True" else PySem.Str.ofString "False")))
  | _ => .bad
def blist : D → Out R
  | .lst ds => .ok (.o ds)
  | .tup ds => .ok (.o ds)
  | _ => .bad
def btuple : D → Out R
  | .lst ds => .ok (.v (.tup ds))
  | .tup ds => .ok (.v (.tup ds))
  | _ => .bad
def bsum : D → Out R
  | .lst ds => match intsD ds with | some l => .ok (.v (.int l.sum)) | none => .bad
  | _ => .bad
def babs : D → Out R
  | .int i => .ok (.v (.int (if i < 0 then -i else i)))
  | _ => .bad
def bmax : D → D → Out R
  | .int i, .int j => .ok (.v (.int (if j > i then j else i)))
  | _, _ => .bad
def bmin : D → D → Out R
  | .int i, .int j => .ok (.v (.int (if j < i then j else i)))
  | _, _ => .bad
def bsset : D → Out R
  | .lst ds => match intsD ds with | some l => if l.length < 4000 then .ok (.o ((sortI l).map D.int)) else .bad | none => .bad
  | _ => .bad
def bsplit : D → D → Out R
  | .str x, .str s => if s.cps.toList = [32] ∧ x.cps.size + 2 ≤ line then .ok (.o ((splitOn 32 [] x.cps.toList).map S)) else .bad
  | _, _ => .bad
def bjoin : D → D → Out R
  | .str s, .lst ds => match strsD ds with | some l => if s.cps.size ≤ 1 ∧ sumLen l ≤ 1000000 then .ok (.v (S (joinS s.cps.toList l))) else .bad | none => .bad
  | _, _ => .bad
def bupper : D → Out R
  | .str x => if strOk x && decide (x.cps.size ≤ 1000000) then .ok (.v (S (upper x.cps.toList))) else .bad
  | _ => .bad
def bi1 : BI → List D → Out R
  | .len, [d] => blen d
  | .abs, [d] => babs d
  | .int, [d] => bint d
  | .bool, [d] => bbool d
  | .str, [d] => bstr d
  | .list, [d] => blist d
  | .tuple, [d] => btuple d
  | .sum, [d] => bsum d
  | .max2, [a, b] => bmax a b
  | .min2, [a, b] => bmin a b
  | .sset, [d] => bsset d
  | .split, [a, b] => bsplit a b
  | .join, [a, b] => bjoin a b
  | .upper, [a] => bupper a
  | _, _ => .bad

/-- a dict whose keys are tuples of numbers -/
def dlook (kvs : List (List Int × D)) (k : List Int) : Option D := (kvs.find? fun p => decide (p.1 = k)).map (·.2)
def dput (k : List Int) (d : D) (kvs : List (List Int × D)) : List (List Int × D) :=
  if kvs.any fun p => decide (p.1 = k) then kvs.map (fun p => if p.1 = k then (p.1, d) else p) else kvs ++ [(k, d)]
def keyOf : D → Option (List Int)
  | .tup ds => intsD ds
  | _ => none

/-! ### slots -/
def get (env : En) (i : Nat) : Sl := env.getD i .un
/-- a name read: a list of one's own becomes data -/
def rd (env : En) (i : Nat) : Out (R × En) := match get env i with
  | .fz d => .ok (.v d, env)
  | .ow ds => .ok (.v (.lst ds), env.set i (.fz (.lst ds)))
  | _ => .bad
/-- a name looked at: nothing changes -/
def pk (env : En) (i : Nat) : Out D := match get env i with
  | .fz d => .ok d
  | .ow ds => .ok (.lst ds)
  | _ => .bad
def bound (env : En) (i : Nat) : Bool := match get env i with
  | .fz _ | .ow _ => true
  | _ => false
def isOd (env : En) (i : Nat) : Bool := match get env i with
  | .od _ => true
  | _ => false
def scalar : D → Bool
  | .non | .bl _ | .int _ | .str _ => true
  | _ => false
def pks (env : En) : List Nat → Out (List D)
  | [] => .ok []
  | i :: r => (pk env i).bind fun d => (pks env r).bind fun ds => .ok (d :: ds)
def thaw (env : En) : List Nat → En
  | [] => env
  | i :: r => thaw (match get env i with | .ow ds => env.set i (.fz (.lst ds)) | _ => env) r
def wipes (env : En) : List Nat → En
  | [] => env
  | i :: r => (wipes env r).set i .un
/-- behind a comprehension: its names as they were before -/
def back (env0 env : En) : List Nat → En
  | [] => env
  | i :: r => (back env0 env r).set i (get env0 i)
def noOwn (env : En) (vs : List Nat) : Bool := vs.all fun i => decide (0 < i) && (match get env i with
  | .fz _ | .un => true
  | _ => false)
def tgs : Tg → List Nat
  | .nm i => [i]
  | .tp2 a b => tgs a ++ tgs b
  | .tp3 a b c => tgs a ++ tgs b ++ tgs c
def un2 : D → Option (D × D)
  | .tup [x, y] => some (x, y)
  | _ => none
def un3 : D → Option (D × D × D)
  | .tup [x, y, z] => some (x, y, z)
  | _ => none
def put : Tg → D → En → Out En
  | .nm i, d, env => if 0 < i ∧ i < env.length then .ok (env.set i (.fz d)) else .bad
  | .tp2 a b, d, env => match un2 d with
    | some (x, y) => (put a x env).bind fun e => put b y e
    | none => .bad
  | .tp3 a b c, d, env => match un3 d with
    | some (x, y, z) => (put a x env).bind fun e => (put b y e).bind fun e => put c z e
    | none => .bad

abbrev CallF := Str → List D → List D → Out (R × List D)
/-- names of which nothing is known but data -/
def lock (env : En) : En := env.map fun s => match s with
  | .fz d => .fz d
  | _ => .un
/-- the items whose flag is true -/
def selD : List D → List D → Option (List D)
  | [], [] => some []
  | d :: ds, .bl b :: bs => (selD ds bs).map fun r => if b then d :: r else r
  | _, _ => none

def zipD : List D → List D → List D
  | x :: xs, y :: ys => .tup [x, y] :: zipD xs ys
  | _, _ => []
def enumD (n : Nat) : List D → List D
  | [] => []
  | x :: xs => .tup [.int n, x] :: enumD (n + 1) xs
def rangeD (lo : Int) : Nat → List D
  | 0 => []
  | n + 1 => .int lo :: rangeD (lo + 1) n
def items : D → Option (List D)
  | .lst ds => some ds
  | .tup ds => some ds
  | .str x => if x.cps.size ≤ line then some (x.cps.toList.map fun c => S [c]) else none
  | _ => none
def rOk (i : Int) : Bool := decide (-(2 ^ 22) ≤ i) && decide (i < 2 ^ 22)

/-- the loop of a comprehension: a turn gives an item, or none -/
def loopC (turn : D → En → Out (Option D × En)) : List D → En → List D → Out (List D × En)
  | [], env, acc => .ok (acc, env)
  | d :: ds, env, acc => (turn d env).bind fun (o, env) => match o with
      | some x => loopC turn ds env (acc ++ [x])
      | none => loopC turn ds env acc
/-- .. of two clauses: a turn gives the list so far -/
def loopC2 (turn : D → En → List D → Out (List D × En)) : List D → En → List D → Out (List D × En)
  | [], env, acc => .ok (acc, env)
  | d :: ds, env, acc => (turn d env acc).bind fun (acc, env) => loopC2 turn ds env acc
section
variable (C : CallF)
mutual
def ev : ME → En → Out (R × En)
  | .var i, env => rd env i
  | .con d, env => .ok (.v d, env)
  | .tup es, env => (evs es env).bind fun (ds, env) => .ok (.v (.tup ds), env)
  | .lst es, env => (evs es env).bind fun (ds, env) => .ok (.o ds, env)
  | .neg a, env => (ev a env).bind fun (r, env) => match r.d with | .int i => .ok (.v (.int (-i)), env) | _ => .bad
  | .bin o a b, env => (ev a env).bind fun (x, env) => (ev b env).bind fun (y, env) => (bin2 o x.d y.d).bind fun r => .ok (r, env)
  | .cmp o a b, env => (ev a env).bind fun (x, env) => (ev b env).bind fun (y, env) => (cmp2 o x.d y.d).bind fun r => .ok (.v (.bl r), env)
  | .chain o1 o2 a b c, env => (ev a env).bind fun (x, env) => (ev b env).bind fun (y, env) => (cmp2 o1 x.d y.d).bind fun r =>
      if r then (ev c env).bind fun (z, env) => (cmp2 o2 y.d z.d).bind fun r => .ok (.v (.bl r), env) else .ok (.v (.bl false), env)
  | .and a b, env => (ev a env).bind fun (x, env) => match x.d with | .bl true => ev b env | .bl false => .ok (.v (.bl false), env) | _ => .bad
  | .or a b, env => (ev a env).bind fun (x, env) => match x.d with | .bl false => ev b env | .bl true => .ok (.v (.bl true), env) | _ => .bad
  | .not a, env => (ev a env).bind fun (x, env) => (truth x.d).bind fun b => .ok (.v (.bl (!b)), env)
  | .ife c a b, env => (evt c env).bind fun (k, env) => if k then ev a env else ev b env
  | .ix a i, env => (ev a env).bind fun (x, env) => (ev i env).bind fun (y, env) => (item x.d y.d).bind fun d => .ok (.v d, env)
  | .ixv s i, env => if bound env s then (ev i env).bind fun (y, env) => (pk env s).bind fun x => (item x y.d).bind fun d => .ok (.v d, env) else .bad
  | .sl a lo hi, env => (ev a env).bind fun (x, env) => (evo lo env).bind fun (l, env) => (evo hi env).bind fun (h, env) => (slice x.d l h).bind fun r => .ok (r, env)
  | .rev a, env => (ev a env).bind fun (x, env) => match x.d with | .lst ds => .ok (.o ds.reverse, env) | .tup ds => .ok (.v (.tup ds.reverse), env) | _ => .bad
  | .call f es, env => (evs es env).bind fun (ds, env) => (C f [] ds).bind fun (r, _) => .ok (r, env)
  | .callo f i es, env => match get env i with
      | .ow _ => (evs es env).bind fun (ds, env) => (match get env i with
        | .ow xs => (noErr (C f xs ds)).bind fun (r, ys) => .ok (r, env.set i (.ow ys))
        | _ => .bad)
      | _ => .bad
  | .callb f is, env => (pks env is).bind fun ds => (C f [] ds).bind fun (r, _) => .ok (r, if scalar r.d then env else thaw env is)
  | .callv fs i es, env => match get env i with
      | .fz (.fn f) => if fs.contains f then (evs es env).bind fun (ds, env) => (C f [] ds).bind fun (r, _) => .ok (r, env) else .bad
      | _ => .bad
  | .bi b es, env => (evs es env).bind fun (ds, env) => (bi1 b ds).bind fun r => .ok (r, env)
  | .lenv i, env => (pk env i).bind fun d => (blen d).bind fun r => .ok (r, env)
  | .isi tys a, env => (ev a env).bind fun (x, env) => if tyOk x.d then .ok (.v (.bl (tys.any (isTy x.d))), env) else .bad
  | .tget o a b, env => (ev o env).bind fun (t, env) => match t.d with
      | .dic kvs => (ev a env).bind fun (x, env) => (ev b env).bind fun (y, env) => (match x.d with
        | .str z => .ok (.v (match look kvs z with | some n => .int n | none => y.d), env)
        | _ => .bad)
      | _ => .bad
  | .kget kvs a b, env => (ev a env).bind fun (x, env) => (ev b env).bind fun (y, env) => (match x.d with
        | .str z => .ok (.v (match look kvs z with | some n => .int n | none => y.d), env)
        | _ => .bad)
  | .kin neg kvs a, env => (ev a env).bind fun (x, env) => (match x.d with
        | .str z => .ok (.v (.bl (if neg then !(look kvs z).isSome else (look kvs z).isSome)), env)
        | _ => .bad)
  | .kix kvs a, env => (ev a env).bind fun (x, env) => (match x.d with
        | .str z => (match look kvs z with | some n => .ok (.v (.int n), env) | none => .bad)
        | _ => .bad)
  | .ddisp kvs, env => .ok (.v (.dic kvs), env)
  | .dix s i, env => if !isOd env s then .bad else (ev i env).bind fun (y, env) => match get env s, keyOf y.d with
      | .od kvs, some k => (match dlook kvs k with | some d => .ok (.v d, env) | none => .bad)
      | _, _ => .bad
  | .dget i a b, env => if !isOd env i then .bad else (ev a env).bind fun (x, env) => (ev b env).bind fun (y, env) => match get env i, keyOf x.d with
      | .od kvs, some k => .ok (.v ((dlook kvs k).getD y.d), env)
      | _, _ => .bad
  | .dlist i, env => match get env i with
      | .od kvs => .ok (.o (kvs.map fun p => .tup (p.1.map .int)), env)
      | _ => .bad
  | .comp tg src c elt vs, env => (evsrc src env).bind fun (ds, env1) => if noOwn env1 vs then
      (noErr (loopC (fun d env => (put tg d (wipes env vs)).bind fun env => (evc c env).bind fun (b, env) =>
        if b then (ev elt env).bind fun (x, env) => .ok (some x.d, env) else .ok (none, env)) ds env1 [])).bind fun (acc, env2) => .ok (.o acc, back env1 env2 vs) else .bad
  | .comp2 tg src tg2 src2 elt vs vs2, env => (evsrc src env).bind fun (ds, env1) => if noOwn env1 vs then
      (noErr (loopC2 (fun d env acc => (put tg d (wipes env vs)).bind fun env => (ev src2 env).bind fun (x, env) => match items x.d with
        | some ys => loopC (fun d env => (put tg2 d (wipes env vs2)).bind fun env => (ev elt env).bind fun (x, env) => .ok (some x.d, env)) ys env acc
        | none => .bad) ds env1 [])).bind fun (acc, env2) => .ok (.o acc, back env1 env2 vs) else .bad
  | .tryn f a, env => (match ev a (lock env) with
    | .ok _ => .ok (.v (.str ⟨#[]⟩), env)
    | .err e => (noErr (C f [] [.str e.cls])).bind fun (r, _) => .ok (r, env)
    | .bad => .bad)
  | .isx c, env => (C c [] []).bind fun (r, _) => .ok (r, env)
  | .hsel a b, env => (ev a env).bind fun (x, env) => (ev b env).bind fun (y, env) => match x.d, y.d with
    | .lst ds, .lst bs => (match selD ds bs with | some r => .ok (.o r, env) | none => .bad)
    | _, _ => .bad
/-- a test -/
def evt : MT → En → Out (Bool × En)
  | .v e, env => (ev e env).bind fun (x, env) => (truth x.d).bind fun b => .ok (b, env)
  | .and a b, env => (evt a env).bind fun (x, env) => if x then evt b env else .ok (false, env)
  | .or a b, env => (evt a env).bind fun (x, env) => if x then .ok (true, env) else evt b env
  | .not a, env => (evt a env).bind fun (x, env) => .ok (!x, env)
def evs : MEs → En → Out (List D × En)
  | .nil, env => .ok ([], env)
  | .cons h t, env => (ev h env).bind fun (x, env) => (evs t env).bind fun (ds, env) => .ok (x.d :: ds, env)
def evo : MO → En → Out (Option Int × En)
  | .none, env => .ok (none, env)
  | .some a, env => (ev a env).bind fun (x, env) => match x.d with | .int i => .ok (some i, env) | _ => .bad
def evsrc : Src → En → Out (List D × En)
  | .v e, env => (ev e env).bind fun (x, env) => match items x.d with | some ds => .ok (ds, env) | none => .bad
  | .r1 a, env => (ev a env).bind fun (x, env) => match x.d with | .int i => if rOk i then .ok (rangeD 0 i.toNat, env) else .bad | _ => .bad
  | .r2 a b, env => (ev a env).bind fun (x, env) => (ev b env).bind fun (y, env) => match x.d, y.d with | .int i, .int j => if rOk i && rOk j then .ok (rangeD i (j - i).toNat, env) else .bad | _, _ => .bad
  | .en a, env => (ev a env).bind fun (x, env) => match x.d with | .lst ds => .ok (enumD 0 ds, env) | _ => .bad
  | .zp a b, env => (ev a env).bind fun (x, env) => (ev b env).bind fun (y, env) => match items x.d, items y.d with | some xs, some ys => .ok (zipD xs ys, env) | _, _ => .bad
def evc : MC → En → Out (Bool × En)
  | .none, env => .ok (true, env)
  | .some a, env => evt a env
end
/-- several expressions, new lists among them -/
def evR : MEs → En → Out (List R × En)
  | .nil, env => .ok ([], env)
  | .cons h t, env => (ev C h env).bind fun (x, env) => (evR t env).bind fun (ds, env) => .ok (x :: ds, env)
end
inductive Fl where
  | nx | rt (r : R)
/-- no loop of ours takes more turns -/
def wfuel : Nat := 2 ^ 9100
def whileL (c : En → Out (Bool × En)) (b : En → Out (Fl × En)) : Nat → En → Out (Fl × En)
  | 0, _ => .bad
  | n + 1, env => (c env).bind fun (k, env) => if k then (b env).bind fun (f, env) => (match f with
      | .nx => whileL c b n env
      | .rt r => .ok (.rt r, env)) else .ok (.nx, env)
def forL (b : D → En → Out (Fl × En)) : List D → En → Out (Fl × En)
  | [], env => .ok (.nx, env)
  | d :: ds, env => (b d env).bind fun (f, env) => match f with
      | .nx => forL b ds env
      | .rt r => .ok (.rt r, env)
/-- a value goes to a slot: own, or as data -/
def store (i : Nat) (own : Bool) (r : R) (env : En) : Out En :=
  if 0 < i ∧ i < env.length then (if own then (match r with
    | .o ds => .ok (env.set i (.ow ds))
    | .v _ => .bad) else (match r with
    | .o ds => .ok (env.set i (.fz (.lst ds)))
    | .v d => .ok (env.set i (.fz d)))) else .bad
def stores : List (Nat × Bool) → List R → En → Out En
  | [], [], env => .ok env
  | (i, o) :: is, r :: rs, env => (store i o r env).bind fun env => stores is rs env
  | _, _, _ => .bad
section
variable (C : CallF)
mutual
def ex : MS → En → Out (Fl × En)
  | .expr e, env => (ev C e env).bind fun (_, env) => .ok (.nx, env)
  | .asg i o e, env => (ev C e env).bind fun (r, env) => (store i o r env).bind fun env => .ok (.nx, env)
  | .asgt t e, env => (ev C e env).bind fun (r, env) => (put t r.d env).bind fun env => .ok (.nx, env)
  | .par is es, env => (evR C es env).bind fun (rs, env) => (stores is rs env).bind fun env => .ok (.nx, env)
  | .setix i ix e, env => match get env i with
      | .ow _ => (ev C e env).bind fun (r, env) => (ev C ix env).bind fun (y, env) => (match get env i, y.d with
        | .ow ds, .int k => (match place ds.length k with | some j => .ok (.nx, env.set i (.ow (ds.set j r.d))) | none => .bad)
        | _, _ => .bad)
      | _ => .bad
  | .app i e, env => match get env i with
      | .ow _ => (ev C e env).bind fun (r, env) => (match get env i with
        | .ow ds => if ds.length < line then .ok (.nx, env.set i (.ow (ds ++ [r.d]))) else .bad
        | _ => .bad)
      | _ => .bad
  | .dset i k e, env => if !isOd env i then .bad else (ev C e env).bind fun (r, env) => (ev C k env).bind fun (y, env) => match get env i, keyOf y.d with
      | .od kvs, some q => if kvs.length < line then .ok (.nx, env.set i (.od (dput q r.d kvs))) else .bad
      | _, _ => .bad
  | .dnew i, env => if 0 < i ∧ i < env.length then .ok (.nx, env.set i (.od [])) else .bad
  | .ret e, env => (ev C e env).bind fun (r, env) => .ok (.rt r, env)
  | .retv i, env => match get env i with
      | .fz d => .ok (.rt (.v d), env)
      | .ow ds => .ok (.rt (.o ds), env.set i .un)
      | _ => .bad
  | .retn, env => .ok (.rt (.v .non), env)
  | .iff c a b, env => (evt C c env).bind fun (k, env) => if k then exs a env else exs b env
  | .whil c b, env => whileL (evt C c) (exs b) wfuel env
  | .forr t s b, env => (evsrc C s env).bind fun (ds, env) => forL (fun d env => (put t d env).bind fun env => exs b env) ds env
  | .rais x, env => .err ⟨x⟩
  | .never, env => .bad
  | .pass, env => .ok (.nx, env)
def exs : MB → En → Out (Fl × En)
  | .nil, env => .ok (.nx, env)
  | .cons s b, env => (ex s env).bind fun (f, env) => match f with
      | .nx => exs b env
      | .rt r => .ok (.rt r, env)
end
end
/-- a def: its parameters, its names, whether the first parameter is a list that it may change -/
structure MF where
  np : Nat
  ns : Nat
  own : Bool
  body : MB
  hot : List Str := []
/-- classes of errors: one of its own, its two bases -/
def isSub (x c : Str) : Bool := decide (c = x) || decide (c = PySem.Str.ofString "ValueError") || decide (c = PySem.Str.ofString "CautionError")
def hotC (C : CallF) (x : Str) : CallF := fun f xs ds => match ds with
  | [] => .ok (.v (.bl (isSub x f)), [])
  | _ => C f xs ds
def MF.start (f : MF) (xs ds : List D) : En := (if f.own then [Sl.ow xs] else []) ++ ds.map Sl.fz ++ List.replicate (f.ns - f.np) Sl.un
def run (C : CallF) (f : MF) (xs ds : List D) : Out (R × List D) :=
  if !f.hot.isEmpty then (match ds with
    | [.str x] => if !f.hot.contains x then .bad else (match exs (hotC C x) f.body (List.replicate f.ns .un) with
      | .ok (.rt (.v (.str s)), _) => .ok (.v (.str s), [])
      | _ => .bad)
    | _ => .bad) else
  if ds.length + (if f.own then 1 else 0) = f.np then (match exs C f.body (f.start xs ds) with
    | .ok (fl, env) => if f.own then (match get env 0 with
        | .ow ys => .ok ((match fl with | .nx => R.v .non | .rt r => r), ys)
        | _ => .bad) else .ok ((match fl with | .nx => R.v .non | .rt r => r), [])
    | .err e => if f.own then .bad else .err e
    | .bad => .bad) else .bad
abbrev Tab := Str → Option MF
def call (T : Tab) : Nat → CallF
  | 0 => fun _ _ _ => .bad
  | k + 1 => fun f xs ds => match T f with
    | some m => run (call T k) m xs ds
    | none => .bad
end MP

end
section
set_option linter.all false
set_option Elab.async false
set_option maxRecDepth 100000
set_option maxHeartbeats 4000000
/-! What the head looks at. -/
namespace MP
open PySem PySem.Spec PyProof.Rows L2
/-- what the head looks at -/
def tabB (K : PySem.W.Frag) (d : Addr) (kvs : List (Str × Int)) : Bool := match K.lookup d with
  | some ⟨_, _, .dict es _, _⟩ => go es.toList kvs
  | _ => false
where go : List DictEntry → List (Str × Int) → Bool
  | [], [] => true
  | e :: es, p :: ps => (match e.key, e.val with
    | .str x _, .int i _ => decide (x = p.1) && decide (i = p.2)
    | _, _ => false) && go es ps
  | _, _ => false
def excCB (K : PySem.W.Frag) (D : Addr) : Bool :=
  decide (PySem.W.findIn K (.ref D) "__getattribute__" = some (some (.builtin "BaseException.__getattribute__"))) && decide (PySem.W.findIn K (.ref D) "__getattr__" = some none) && decide (PySem.W.subIn K (.ref D) (.type "BaseException") = some true) &&
  PySem.W.hasDictIn K D && decide (PySem.W.findIn K (.ref D) "__class__" = some (some (.builtin "object.__class__"))) && decide (PySem.W.specialIn K (.builtin "object.__class__") "__get__" = some (some (.builtin "getset_descriptor.__get__"))) &&
  decide (PySem.W.takesIn K (.builtin "object.__class__") = some true) && decide (PySem.W.mroIn K D (.type "object") = some true)
def hotB (K : PySem.W.Frag) (own : List Str) (blt : List String) (cs : List Str) (ec : Str) : Bool := cs.all fun x =>
  excCB K (He.ga K x) && (own.all fun c => decide (PySem.W.kitOne K (.ref (He.ga K x)) (.ref (He.ga K c)) = some (isSub x c))) && (blt.all fun c => decide (PySem.W.kitOne K (.ref (He.ga K x)) (.type c) = some (isSub x (PySem.Str.ofString c)))) && decide (PySem.W.exmOne K (.ref (He.ga K x)) (.ref (He.ga K ec)) = some true)
end MP

end
section
set_option Elab.async false
set_option linter.all false
set_option maxRecDepth 100000
set_option maxHeartbeats 0
/-! The head of law_k01 (printed by gen2.py). -/
namespace HK01
open PySem PySem.Spec PyProof.Rows MP
def top (i : Nat) : Stmt := PySem.Challenge.pw_anycautious_k01_contracts_and_people_rec.main.body.getD i (.Pass ⟨0, 0, 0, 0⟩)
def d_lowest : He.DefD := ⟨((Str.ofString "lowest"), none), (Str.ofString "lowest"), (Str.ofString "lowest"), L2.defArgs (top 13), L2.defBody (top 13), L2.defScope (top 13), [], []⟩
def d_plus : He.DefD := ⟨((Str.ofString "plus"), none), (Str.ofString "plus"), (Str.ofString "plus"), L2.defArgs (top 14), L2.defBody (top 14), L2.defScope (top 14), [], []⟩
def d_minus : He.DefD := ⟨((Str.ofString "minus"), none), (Str.ofString "minus"), (Str.ofString "minus"), L2.defArgs (top 15), L2.defBody (top 15), L2.defScope (top 15), [], []⟩
def d_times : He.DefD := ⟨((Str.ofString "times"), none), (Str.ofString "times"), (Str.ofString "times"), L2.defArgs (top 16), L2.defBody (top 16), L2.defScope (top 16), [], []⟩
def d_is_below : He.DefD := ⟨((Str.ofString "is_below"), none), (Str.ofString "is_below"), (Str.ofString "is_below"), L2.defArgs (top 17), L2.defBody (top 17), L2.defScope (top 17), [], []⟩
def d_lesser : He.DefD := ⟨((Str.ofString "lesser"), none), (Str.ofString "lesser"), (Str.ofString "lesser"), L2.defArgs (top 18), L2.defBody (top 18), L2.defScope (top 18), [], []⟩
def d_greater : He.DefD := ⟨((Str.ofString "greater"), none), (Str.ofString "greater"), (Str.ofString "greater"), L2.defArgs (top 19), L2.defBody (top 19), L2.defScope (top 19), [], []⟩
def d_total : He.DefD := ⟨((Str.ofString "total"), none), (Str.ofString "total"), (Str.ofString "total"), L2.defArgs (top 20), L2.defBody (top 20), L2.defScope (top 20), [], []⟩
def d_multiple_of : He.DefD := ⟨((Str.ofString "multiple_of"), none), (Str.ofString "multiple_of"), (Str.ofString "multiple_of"), L2.defArgs (top 21), L2.defBody (top 21), L2.defScope (top 21), [], []⟩
def d_in_order : He.DefD := ⟨((Str.ofString "in_order"), none), (Str.ofString "in_order"), (Str.ofString "in_order"), L2.defArgs (top 22), L2.defBody (top 22), L2.defScope (top 22), [], []⟩
def d_is_fraction : He.DefD := ⟨((Str.ofString "is_fraction"), none), (Str.ofString "is_fraction"), (Str.ofString "is_fraction"), L2.defArgs (top 23), L2.defBody (top 23), L2.defScope (top 23), [], []⟩
def d_is_whole : He.DefD := ⟨((Str.ofString "is_whole"), none), (Str.ofString "is_whole"), (Str.ofString "is_whole"), L2.defArgs (top 29), L2.defBody (top 29), L2.defScope (top 29), [], []⟩
def d_is_amount : He.DefD := ⟨((Str.ofString "is_amount"), none), (Str.ofString "is_amount"), (Str.ofString "is_amount"), L2.defArgs (top 30), L2.defBody (top 30), L2.defScope (top 30), [], []⟩
def d_are_numbers : He.DefD := ⟨((Str.ofString "are_numbers"), none), (Str.ofString "are_numbers"), (Str.ofString "are_numbers"), L2.defArgs (top 31), L2.defBody (top 31), L2.defScope (top 31), [], []⟩
def d_inner_values : He.DefD := ⟨((Str.ofString "inner_values"), none), (Str.ofString "inner_values"), (Str.ofString "inner_values"), L2.defArgs (top 32), L2.defBody (top 32), L2.defScope (top 32), [], []⟩
def d_sure_count : He.DefD := ⟨((Str.ofString "sure_count"), none), (Str.ofString "sure_count"), (Str.ofString "sure_count"), L2.defArgs (top 33), L2.defBody (top 33), L2.defScope (top 33), [], []⟩
def d_has_contract : He.DefD := ⟨((Str.ofString "has_contract"), none), (Str.ofString "has_contract"), (Str.ofString "has_contract"), L2.defArgs (top 34), L2.defBody (top 34), L2.defScope (top 34), [], []⟩
def d_need_contract : He.DefD := ⟨((Str.ofString "need_contract"), none), (Str.ofString "need_contract"), (Str.ofString "need_contract"), L2.defArgs (top 35), L2.defBody (top 35), L2.defScope (top 35), [], []⟩
def d_paid : He.DefD := ⟨((Str.ofString "paid"), none), (Str.ofString "paid"), (Str.ofString "paid"), L2.defArgs (top 36), L2.defBody (top 36), L2.defScope (top 36), [], []⟩
def d_joined : He.DefD := ⟨((Str.ofString "joined"), none), (Str.ofString "joined"), (Str.ofString "joined"), L2.defArgs (top 37), L2.defBody (top 37), L2.defScope (top 37), [], []⟩
def d_rows_of : He.DefD := ⟨((Str.ofString "rows_of"), none), (Str.ofString "rows_of"), (Str.ofString "rows_of"), L2.defArgs (top 38), L2.defBody (top 38), L2.defScope (top 38), [], []⟩
def d_mean_of : He.DefD := ⟨((Str.ofString "mean_of"), none), (Str.ofString "mean_of"), (Str.ofString "mean_of"), L2.defArgs (top 39), L2.defBody (top 39), L2.defScope (top 39), [], []⟩
def d_is_contract : He.DefD := ⟨((Str.ofString "is_contract"), none), (Str.ofString "is_contract"), (Str.ofString "is_contract"), L2.defArgs (top 40), L2.defBody (top 40), L2.defScope (top 40), [], []⟩
def d_has_person : He.DefD := ⟨((Str.ofString "has_person"), none), (Str.ofString "has_person"), (Str.ofString "has_person"), L2.defArgs (top 41), L2.defBody (top 41), L2.defScope (top 41), [], []⟩
def d_is_person : He.DefD := ⟨((Str.ofString "is_person"), none), (Str.ofString "is_person"), (Str.ofString "is_person"), L2.defArgs (top 42), L2.defBody (top 42), L2.defScope (top 42), [], []⟩
def d_rows : He.DefD := ⟨((Str.ofString "rows"), none), (Str.ofString "rows"), (Str.ofString "rows"), L2.defArgs (top 43), L2.defBody (top 43), L2.defScope (top 43), [], []⟩
def d_mean : He.DefD := ⟨((Str.ofString "mean"), none), (Str.ofString "mean"), (Str.ofString "mean"), L2.defArgs (top 44), L2.defBody (top 44), L2.defScope (top 44), [], []⟩
def d__law_vat : He.DefD := ⟨((Str.ofString "_law_vat"), none), (Str.ofString "_law_vat"), (Str.ofString "_law_vat"), L2.defArgs (top 46), L2.defBody (top 46), L2.defScope (top 46), [], []⟩
def d__law_under : He.DefD := ⟨((Str.ofString "_law_under"), none), (Str.ofString "_law_under"), (Str.ofString "_law_under"), L2.defArgs (top 47), L2.defBody (top 47), L2.defScope (top 47), [], []⟩
def d__law_some : He.DefD := ⟨((Str.ofString "_law_some"), none), (Str.ofString "_law_some"), (Str.ofString "_law_some"), L2.defArgs (top 48), L2.defBody (top 48), L2.defScope (top 48), [], []⟩
def d__law_is_whole : He.DefD := ⟨((Str.ofString "_law_is_whole"), none), (Str.ofString "_law_is_whole"), (Str.ofString "_law_is_whole"), L2.defArgs (top 49), L2.defBody (top 49), L2.defScope (top 49), [], []⟩
def d__law_truly : He.DefD := ⟨((Str.ofString "_law_truly"), none), (Str.ofString "_law_truly"), (Str.ofString "_law_truly"), L2.defArgs (top 50), L2.defBody (top 50), L2.defScope (top 50), [], []⟩
def d__law_low : He.DefD := ⟨((Str.ofString "_law_low"), none), (Str.ofString "_law_low"), (Str.ofString "_law_low"), L2.defArgs (top 51), L2.defBody (top 51), L2.defScope (top 51), [], []⟩
def d__law_less : He.DefD := ⟨((Str.ofString "_law_less"), none), (Str.ofString "_law_less"), (Str.ofString "_law_less"), L2.defArgs (top 52), L2.defBody (top 52), L2.defScope (top 52), [], []⟩
def d__law_ordered : He.DefD := ⟨((Str.ofString "_law_ordered"), none), (Str.ofString "_law_ordered"), (Str.ofString "_law_ordered"), L2.defArgs (top 53), L2.defBody (top 53), L2.defScope (top 53), [], []⟩
def d__law_is_fraction : He.DefD := ⟨((Str.ofString "_law_is_fraction"), none), (Str.ofString "_law_is_fraction"), (Str.ofString "_law_is_fraction"), L2.defArgs (top 54), L2.defBody (top 54), L2.defScope (top 54), [], []⟩
def d__law_shape : He.DefD := ⟨((Str.ofString "_law_shape"), none), (Str.ofString "_law_shape"), (Str.ofString "_law_shape"), L2.defArgs (top 55), L2.defBody (top 55), L2.defScope (top 55), [], []⟩
def d__law_ends : He.DefD := ⟨((Str.ofString "_law_ends"), none), (Str.ofString "_law_ends"), (Str.ofString "_law_ends"), L2.defArgs (top 56), L2.defBody (top 56), L2.defScope (top 56), [], []⟩
def d__law_is_contract : He.DefD := ⟨((Str.ofString "_law_is_contract"), none), (Str.ofString "_law_is_contract"), (Str.ofString "_law_is_contract"), L2.defArgs (top 57), L2.defBody (top 57), L2.defScope (top 57), [], []⟩
def d__law_is_person : He.DefD := ⟨((Str.ofString "_law_is_person"), none), (Str.ofString "_law_is_person"), (Str.ofString "_law_is_person"), L2.defArgs (top 58), L2.defBody (top 58), L2.defScope (top 58), [], []⟩
def d__law_contract : He.DefD := ⟨((Str.ofString "_law_contract"), none), (Str.ofString "_law_contract"), (Str.ofString "_law_contract"), L2.defArgs (top 59), L2.defBody (top 59), L2.defScope (top 59), [], []⟩
def d__law_small : He.DefD := ⟨((Str.ofString "_law_small"), none), (Str.ofString "_law_small"), (Str.ofString "_law_small"), L2.defArgs (top 60), L2.defBody (top 60), L2.defScope (top 60), [], []⟩
def d__law_person : He.DefD := ⟨((Str.ofString "_law_person"), none), (Str.ofString "_law_person"), (Str.ofString "_law_person"), L2.defArgs (top 61), L2.defBody (top 61), L2.defScope (top 61), [], []⟩
def d__law_names : He.DefD := ⟨((Str.ofString "_law_names"), none), (Str.ofString "_law_names"), (Str.ofString "_law_names"), L2.defArgs (top 62), L2.defBody (top 62), L2.defScope (top 62), [], []⟩
def d__law_error : He.DefD := ⟨((Str.ofString "_law_error"), none), (Str.ofString "_law_error"), (Str.ofString "_law_error"), L2.defArgs (top 63), L2.defBody (top 63), L2.defScope (top 63), [], []⟩
def d__law_odd : He.DefD := ⟨((Str.ofString "_law_odd"), none), (Str.ofString "_law_odd"), (Str.ofString "_law_odd"), L2.defArgs (top 64), L2.defBody (top 64), L2.defScope (top 64), [], []⟩
def d__law_bent : He.DefD := ⟨((Str.ofString "_law_bent"), none), (Str.ofString "_law_bent"), (Str.ofString "_law_bent"), L2.defArgs (top 65), L2.defBody (top 65), L2.defScope (top 65), [], []⟩
def d__law_judged : He.DefD := ⟨((Str.ofString "_law_judged"), none), (Str.ofString "_law_judged"), (Str.ofString "_law_judged"), L2.defArgs (top 66), L2.defBody (top 66), L2.defScope (top 66), [], []⟩
def d__law_deep : He.DefD := ⟨((Str.ofString "_law_deep"), none), (Str.ofString "_law_deep"), (Str.ofString "_law_deep"), L2.defArgs (top 67), L2.defBody (top 67), L2.defScope (top 67), [], []⟩
def d_law : He.DefD := ⟨((Str.ofString "law"), none), (Str.ofString "law"), (Str.ofString "law"), L2.defArgs (top 68), L2.defBody (top 68), L2.defScope (top 68), [], []⟩
def fn0 : List He.DefD := [d_lowest, d_plus, d_minus, d_times, d_is_below, d_lesser, d_greater, d_total, d_multiple_of, d_in_order, d_is_fraction, d_is_whole, d_is_amount, d_are_numbers, d_inner_values, d_sure_count, d_has_contract, d_need_contract, d_paid, d_joined, d_rows_of, d_mean_of, d_is_contract, d_has_person, d_is_person]
def fn1 : List He.DefD := [d_rows, d_mean, d__law_vat, d__law_under, d__law_some, d__law_is_whole, d__law_truly, d__law_low, d__law_less, d__law_ordered, d__law_is_fraction, d__law_shape, d__law_ends, d__law_is_contract, d__law_is_person, d__law_contract, d__law_small, d__law_person, d__law_names, d__law_error, d__law_odd, d__law_bent, d__law_judged, d__law_deep, d_law]
def fn : List He.DefD := fn0 ++ fn1
def fa0 : List He.Fa := [.glo (Str.ofString "lowest"), .glo (Str.ofString "plus"), .glo (Str.ofString "minus"), .glo (Str.ofString "times"), .glo (Str.ofString "is_below"), .glo (Str.ofString "lesser"), .glo (Str.ofString "greater"), .glo (Str.ofString "total"), .glo (Str.ofString "multiple_of"), .glo (Str.ofString "in_order"), .glo (Str.ofString "is_fraction"), .glo (Str.ofString "is_whole"), .glo (Str.ofString "is_amount"), .glo (Str.ofString "are_numbers"), .glo (Str.ofString "inner_values"), .glo (Str.ofString "sure_count"), .glo (Str.ofString "has_contract"), .glo (Str.ofString "need_contract"), .glo (Str.ofString "paid"), .glo (Str.ofString "joined"), .glo (Str.ofString "rows_of"), .glo (Str.ofString "mean_of"), .glo (Str.ofString "is_contract"), .glo (Str.ofString "has_person"), .glo (Str.ofString "is_person")]
def fa1 : List He.Fa := [.glo (Str.ofString "rows"), .glo (Str.ofString "mean"), .glo (Str.ofString "_law_vat"), .glo (Str.ofString "_law_under"), .glo (Str.ofString "_law_some"), .glo (Str.ofString "_law_is_whole"), .glo (Str.ofString "_law_truly"), .glo (Str.ofString "_law_low"), .glo (Str.ofString "_law_less"), .glo (Str.ofString "_law_ordered"), .glo (Str.ofString "_law_is_fraction"), .glo (Str.ofString "_law_shape"), .glo (Str.ofString "_law_ends"), .glo (Str.ofString "_law_is_contract"), .glo (Str.ofString "_law_is_person"), .glo (Str.ofString "_law_contract"), .glo (Str.ofString "_law_small"), .glo (Str.ofString "_law_person"), .glo (Str.ofString "_law_names"), .glo (Str.ofString "_law_error"), .glo (Str.ofString "_law_odd"), .glo (Str.ofString "_law_bent"), .glo (Str.ofString "_law_judged"), .glo (Str.ofString "_law_deep"), .glo (Str.ofString "law")]
def fa2 : List He.Fa := [.glo (Str.ofString "NONE"), .glo (Str.ofString "WHOLE"), .int (Str.ofString "MOST_AMOUNT") 1000, .int (Str.ofString "MOST_DEEP") 6, .int (Str.ofString "MOST_SURE") 12, .glo (Str.ofString "PLACES"), .free (Str.ofString "ValueError"), .free (Str.ofString "abs"), .free (Str.ofString "bool"), .free (Str.ofString "int"), .free (Str.ofString "isinstance"), .free (Str.ofString "len"), .free (Str.ofString "list"), .free (Str.ofString "max"), .free (Str.ofString "min"), .free (Str.ofString "range"), .free (Str.ofString "set"), .free (Str.ofString "sorted"), .free (Str.ofString "str"), .free (Str.ofString "sum"), .free (Str.ofString "tuple"), .free (Str.ofString "zip"), .glo (Str.ofString "InvalidContract"), .exc (Str.ofString "InvalidContract"), .glo (Str.ofString "InvalidPerson")]
def fa3 : List He.Fa := [.glo (Str.ofString "InvalidOffers"), .glo (Str.ofString "InvalidChoices"), .glo (Str.ofString "InvalidNumber"), .glo (Str.ofString "InvalidText"), .glo (Str.ofString "NothingToUndo"), .glo (Str.ofString "TooMany"), .glo (Str.ofString "CautionError")]
def fa : List He.Fa := fa0 ++ fa1 ++ fa2 ++ fa3
def ts : List He.Tab := [(fun K => He.ga K (Str.ofString "PLACES"), [(Str.ofString "sure"), (Str.ofString "draw"), (Str.ofString "cap"), (Str.ofString "floor"), (Str.ofString "more"), (Str.ofString "share"), (Str.ofString "insured")])]
def tf : List He.Defn := [((Str.ofString "_law_judged"), none)]
def ex (K : PySem.W.Frag) : Bool := He.tupB K (Str.ofString "NONE") [.int 0, .int 1] && (He.tupB K (Str.ofString "WHOLE") [.int 1, .int 1] && (tabB K (He.ga K (Str.ofString "PLACES")) [((Str.ofString "sure"), 2), ((Str.ofString "draw"), 2), ((Str.ofString "cap"), 3), ((Str.ofString "floor"), 3), ((Str.ofString "more"), 3), ((Str.ofString "share"), 4), ((Str.ofString "insured"), 5)] && (hotB K [(Str.ofString "InvalidContract"), (Str.ofString "InvalidPerson"), (Str.ofString "InvalidOffers"), (Str.ofString "InvalidChoices"), (Str.ofString "InvalidNumber"), (Str.ofString "InvalidText"), (Str.ofString "NothingToUndo"), (Str.ofString "TooMany")] ["ValueError"] [(Str.ofString "InvalidContract")] (Str.ofString "CautionError") && (decide ((tf.map fun p => (He.cT K p).2).Nodup)))))
def loose0 : List Str := [(Str.ofString "CautionError"), (Str.ofString "InvalidContract"), (Str.ofString "InvalidPerson"), (Str.ofString "InvalidOffers"), (Str.ofString "InvalidChoices"), (Str.ofString "InvalidNumber"), (Str.ofString "InvalidText"), (Str.ofString "NothingToUndo"), (Str.ofString "TooMany"), (Str.ofString "NONE"), (Str.ofString "WHOLE"), (Str.ofString "lowest"), (Str.ofString "plus"), (Str.ofString "minus"), (Str.ofString "times"), (Str.ofString "is_below"), (Str.ofString "lesser"), (Str.ofString "greater"), (Str.ofString "total"), (Str.ofString "multiple_of"), (Str.ofString "in_order"), (Str.ofString "is_fraction"), (Str.ofString "MOST_AMOUNT"), (Str.ofString "MOST_DEEP"), (Str.ofString "MOST_SURE"), (Str.ofString "PLACES"), (Str.ofString "is_whole"), (Str.ofString "is_amount"), (Str.ofString "are_numbers"), (Str.ofString "inner_values")]
def loose1 : List Str := [(Str.ofString "sure_count"), (Str.ofString "has_contract"), (Str.ofString "need_contract"), (Str.ofString "paid"), (Str.ofString "joined"), (Str.ofString "rows_of"), (Str.ofString "mean_of"), (Str.ofString "is_contract"), (Str.ofString "has_person"), (Str.ofString "is_person"), (Str.ofString "rows"), (Str.ofString "mean"), (Str.ofString "_law_vat"), (Str.ofString "_law_under"), (Str.ofString "_law_some"), (Str.ofString "_law_is_whole"), (Str.ofString "_law_truly"), (Str.ofString "_law_low"), (Str.ofString "_law_less"), (Str.ofString "_law_ordered"), (Str.ofString "_law_is_fraction"), (Str.ofString "_law_shape"), (Str.ofString "_law_ends"), (Str.ofString "_law_is_contract"), (Str.ofString "_law_is_person"), (Str.ofString "_law_contract"), (Str.ofString "_law_small"), (Str.ofString "_law_person"), (Str.ofString "_law_names"), (Str.ofString "_law_error")]
def loose2 : List Str := [(Str.ofString "_law_odd"), (Str.ofString "_law_bent"), (Str.ofString "_law_judged"), (Str.ofString "_law_deep")]
def loose : List Str := loose0 ++ loose1 ++ loose2
abbrev R : PySem.W.OpenRow := PySem.W.OpenLaw.row PySem.Challenge.rw_anycautious_k01_contracts_and_people_rec
abbrev hk : PySem.W.Hook := He.hookX 4 fa fn ts tf ex
def ob (s : PySem.W.SharedT) : He.AlX := He.obsX 4 fa fn ts tf ex (HandSHeadRun.getT s)
theorem ob_eq (s : PySem.W.SharedT) : ob s = hk.obs s.abs := He.obsX_eq (HandSHeadRun.getT_eq s)
theorem run_f (w : World) : HandSHeadRun.RunEq R (PySem.W.view R.prog [68]) hk ob 6000 loose (w.withFollow "special-get-raises" false) := fun os => by kernel_rfl
theorem run_t (w : World) : HandSHeadRun.RunEq R (PySem.W.view R.prog [68]) hk ob 6000 loose (w.withFollow "special-get-raises" true) := fun os => by kernel_rfl
theorem run (w : World) : HandSHeadRun.RunEq R (PySem.W.view R.prog [68]) hk ob 6000 loose w := PySem.W.byRow2 "special-get-raises" (P := fun w => HandSHeadRun.RunEq R (PySem.W.view R.prog [68]) hk ob 6000 loose w) run_f run_t w

end HK01

end
section
set_option linter.all false
set_option Elab.async false
set_option maxRecDepth 100000
set_option maxHeartbeats 4000000
/-! A dict whose keys are tuples of ints, tracked by its own object alone: the keys' tuples may be the module's. -/
namespace MPS
open PySem PySem.Spec PyProof.Rows L2
abbrev TKd (P : Program) (w : World) := tupleKind (mixKind P w)
def DT0 (P : Program) (w : World) (a : Addr) (xs : List (List Key × Addr × Value)) (h : Heap) : Prop := xs.length ≤ sizeLine ∧ (a == sysModules) = false ∧
  ∃ o es ep, h.get? a = some o ∧ o.ExactDict ∧ o.data = .dict es ep ∧ es.toList = xs.map (entryOfKey (TKd P w)) ∧ (xs.map (·.1)).Nodup
def DTO (P : Program) (w : World) (a : Addr) (xs : List (List Key × Addr × Value)) : HO := .ext (DT0 P w a xs)
theorem dto_new {P : Program} {w : World} {H : Hp} {h : Heap} {a : Addr} {xs : List (List Key × Addr × Value)} (R : DT0 P w a xs h) : ObjOk P w H h a (DTO P w a xs) := by
  have ⟨_, _, o, _, _, ho, _⟩ := R
  refine ⟨R, ⟨o, ho⟩, fun h1 h2 p k => ?_⟩
  obtain ⟨z, y, o', es, ep, ho', r⟩ := p
  exact ⟨z, y, o', es, ep, k o' ho', r⟩
section
variable {X : Cx} {pins : List (Addr × Obj)} {σ : L2.St} {H : Hp} {s : Shared} {a b : Addr} {xs : List (List Key × Addr × Value)} {k : List Key} {A : Around} {E : Value → Shared → Prop} {v r : Value}
theorem dto_get (I : Inv X pins σ H s) (ha : H a = some (DTO X.prog X.w a xs)) : DT0 X.prog X.w a xs s.heap := (I.hok a _ ha).1
/-- the keys' tuples -/
def KsOk (K : PySem.W.Frag) (H : Hp) (xs : List (List Key × Addr × Value)) : Prop := ∀ x ∈ xs, SqT K H x.2.1 (x.1.map kV)
theorem keyT (I : Inv X pins σ H s) (h : SqT X.K H b (k.map kV)) : (TKd X.prog X.w).is s.heap k b := by
  obtain ⟨its, r, ⟨o, ho, hc, n, hd⟩, _⟩ := I.tuple h
  exact ⟨o, its.toArray, n, ho, hc, hd, by simpa using items_are r⟩
theorem dto_full (I : Inv X pins σ H s) (ha : H a = some (DTO X.prog X.w a xs)) (hk : KsOk X.K H xs) : s.heap.DictOfH (TKd X.prog X.w) a xs := by
  obtain ⟨_, _, o, es, ep, h1, h2, h3, h4, h5⟩ := dto_get I ha
  exact ⟨o, es, ep, h1, h2, h3, h4, fun x hx => keyT I (hk x hx), h5⟩
theorem dt_getItem {Q : Value → Shared → Prop} {p : Addr × Value} (hu : A.units + 1 < cLine) (I : Inv X pins σ H s) (ha : H a = some (DTO X.prog X.w a xs)) (hk : KsOk X.K H xs) (hb : SqT X.K H b (k.map kV)) (hp : atKey xs k = some p) (h : ∀ s', Inv X pins σ H s' → Q p.2 s') :
    wpAny (model X.prog X.w) A (getItem (.ref a) (.ref b)) Q E s :=
  wpAny_getItem_heap (tupleKind_room_in1 hu) (keyT I hb) (dto_full I ha hk) hp (h _ (I.tok _))
theorem dt_get2 {Q : Value → Shared → Prop} (hu : A.units + 1 < cLine) (I : Inv X pins σ H s) (ha : H a = some (DTO X.prog X.w a xs)) (hk : KsOk X.K H xs) (hb : SqT X.K H b (k.map kV)) (h : ∀ s', Inv X pins σ H s' → Q (((atKey xs k).map (·.2)).getD r) s') :
    wpAny (model X.prog X.w) A (call (.builtin "dict.get") [.ref a, .ref b, r]) Q E s := by
  have dd := dto_full I ha hk
  obtain ⟨_, hd, _⟩ := dto_get I ha
  exact call_meetsIn PySem.F.slot_dict_get dd.typeIs PySem.F.entry_dict_get (PySem.F.args_dict_get_3 _ _ _) (meetsH_dict_get_default (TKd X.prog X.w) a b hd r) ⟨tupleKind_room_in1 hu, k, xs, keyT I hb, dd, h _ (I.tok _)⟩
theorem len_storedH (xs : List (List Key × Addr × Value)) (k : List Key) (b : Addr) (v : Value) : (storedH xs k b v).length ≤ xs.length + 1 := by
  unfold storedH; split
  · rw [List.length_map]; omega
  · rw [List.length_append]; simp
theorem dt_setItem {Q : Unit → Shared → Prop} (hu : A.units + 1 < cLine) (I : Inv X pins σ H s) (ha : H a = some (DTO X.prog X.w a xs)) (hk : KsOk X.K H xs) (hb : SqT X.K H b (k.map kV)) (hl : xs.length < sizeLine)
    (h : ∀ s', Inv X pins σ (upd H a (DTO X.prog X.w a (storedH xs k b v))) s' → Q () s') : wpAny (model X.prog X.w) A (setItem (.ref a) (.ref b) v) Q E s := by
  obtain ⟨z, hd, _⟩ := dto_get I ha
  refine wpAny_setItem_heap (hsz := z) (tupleKind_room_in1 hu) (keyT I hb) (dto_full I ha hk) fun h' dd' hs => h _ ?_
  obtain ⟨q, es, ep, hq, h2, h3, h4, _, h5⟩ := dd'
  exact d_write I (by rw [ha]; exact True.intro) hs ⟨q, hq⟩ (dto_new ⟨by have := len_storedH xs k b v; omega, hd, q, es, ep, hq, h2, h3, h4, h5⟩)
end
section
variable {X : Cx} {o i e f value : Expr} {pos pos' apos cpos : Pos} {td ty tx tv : TE}
/-- found[key] -/
def tTGet (X : Cx) (td ty : TE) : TE := fun σ H Q => td σ H fun x H1 => ty σ H1 fun y H2 => ∃ a b xs k p v, x = .ref a ∧ y = .ref b ∧ H2 a = some (DTO X.prog X.w a xs) ∧ KsOk X.K H2 xs ∧ SqT X.K H2 b (k.map kV) ∧ atKey xs k = some p ∧ RelV v p.2 ∧ Q v H2
theorem pe_tget (hu : X.A.units + 1 < cLine) (ho : PE X o td) (hi : PE X i ty) (hs : NoSl i) : PE X (.Subscript o i pos) (tTGet X td ty) := by
  refine ⟨fun pins s σ H Q I h => ?_⟩
  refine subD_of PySem.F.slot_dict_getitem.lookup hs (thn (ho.run pins s σ H _ I h) fun u s1 ⟨x, H1, I1, rx, q1⟩ => thn (hi.run pins s1 σ H1 _ I1 q1) fun iv s2 ⟨y, H2, I2, ry, a, b, xs, k, p, v, ex, ey, ha, hk, hb, hp, rv, q2⟩ => ?_)
  subst ex ey
  obtain rfl : u = Value.ref a := rx
  obtain rfl : iv = Value.ref b := ry
  exact ⟨(dto_full I2 ha hk).typeIs, dt_getItem hu I2 ha hk hb hp fun s3 I3 => ⟨v, H2, I3, rv, q2⟩⟩
def tTGet2 (X : Cx) (td ty tx : TE) : TE := fun σ H Q => td σ H fun x H1 => ∃ a, x = .ref a ∧ (∃ xs, H1 a = some (DTO X.prog X.w a xs)) ∧ ty σ H1 fun y H2 => tx σ H2 fun z H3 => ∃ b xs k v, y = .ref b ∧ H3 a = some (DTO X.prog X.w a xs) ∧ KsOk X.K H3 xs ∧
  SqT X.K H3 b (k.map kV) ∧ (∀ r, RelV z r → RelV v (((atKey xs k).map (·.2)).getD r)) ∧ Q v H3
theorem pe_tget2 (hu : X.A.units + 1 < cLine) (ho : PE X o td) (he : PE X e ty) (hf : PE X f tx) (m : M2 X o "get" apos e f cpos) : PE X (.Call (.Attribute o "get" apos) [e, f] [] cpos) (tTGet2 X td ty tx) := by
  refine ⟨fun pins s σ H Q I h => ?_⟩
  refine wpAny_Call_method m.base m.few m.line PySem.F.plainAttrs_dict PySem.F.slot_dict_get PySem.F.type_dict_get (thn (ho.run pins s σ H _ I h) fun u s1 ⟨x, H1, I1, rx, a, ex, d, q1⟩ => ?_)
  subst ex
  obtain rfl : u = Value.ref a := rx
  obtain ⟨xs0, d⟩ := d
  obtain ⟨_, _, ob, es, ep, h1, h2, h3, _⟩ := dto_get I1 d
  refine ⟨⟨ob, h1, h2.1⟩, fun b q => by cases q; exact ⟨ob, h1, h2.2.1⟩, ?_⟩
  rw [m.trees]
  refine Calls.callWith_builtin rfl (Calls.evalArgs_plain (Calls.spliced_cons (thn (he.run pins s1 σ H1 _ I1 q1) fun iv s2 ⟨y, H2, I2, ry, q2⟩ =>
    Calls.spliced_cons (thn (hf.run pins s2 σ H2 _ I2 q2) fun fv s3 ⟨z, H3, I3, rz, b, xs, k, v, ey, ha, hk, hb, hv, q3⟩ => Calls.spliced_nil ?_))))
  subst ey
  obtain rfl : iv = Value.ref b := ry
  exact dt_get2 hu I3 ha hk hb fun s4 I4 => ⟨v, H3, I4, hv _ rz, q3⟩
def sTPut (X : Cx) (td ty tv : TE) : TS := fun D σ H => tv σ H fun v H1 => td σ H1 fun x H2 => ty σ H2 fun y H3 => ∃ a b xs k, x = .ref a ∧ y = .ref b ∧ H3 a = some (DTO X.prog X.w a xs) ∧ KsOk X.K H3 xs ∧ SqT X.K H3 b (k.map kV) ∧ xs.length < sizeLine ∧
  ∀ u, RelV v u → D.nx σ (upd H3 a (DTO X.prog X.w a (storedH xs k b u)))
theorem ps_tput (hu : X.A.units + 1 < cLine) (ho : PE X o td) (hi : PE X i ty) (hv : PE X value tv) (hs : swapsWith value (some (.Subscript o i pos')) pos.line X.env = pure false) :
    PS X (.Assign [.Subscript o i pos'] value pos) (sTPut X td ty tv) := by
  refine ⟨fun pins s σ H D I h => ?_⟩
  refine wpAny_Assign_Subscript (thn (hv.run pins s σ H _ I h) fun r s1 ⟨v, H1, I1, rv, q1⟩ => thn (ho.run pins s1 σ H1 _ I1 q1) fun u s2 ⟨x, H2, I2, rx, q2⟩ => thn (hi.run pins s2 σ H2 _ I2 q2) fun iv s3 ⟨y, H3, I3, ry, a, b, xs, k, ex, ey, ha, hk, hb, hl, q3⟩ => ?_) hs
  subst ex ey
  obtain rfl : u = Value.ref a := rx
  obtain rfl : iv = Value.ref b := ry
  exact dt_setItem hu I3 ha hk hb hl fun s4 I4 => ⟨σ, _, I4, q3 r rv⟩
/-- {}, a new one -/
def tTNew (X : Cx) : TE := fun _ H Q => ∀ p, H p = none → Q (.ref p) (upd H p (DTO X.prog X.w p []))
theorem pe_tnew : PE X (.Dict [] [] pos) (tTNew X) := ⟨fun pins s σ H Q I h =>
  wpAny_Dict_empty ⟨.ref s.heap.objs.size, _, I.laid (a := s.heap.objs.size) (o := DTO X.prog X.w s.heap.objs.size []) (t' := s.toks) (fun _ _ q => Heap.get?_push_of_some _ q) (Nat.le_refl _)
    (dto_new ⟨Nat.zero_le _, beq_eq_false_iff_ne.mpr (Ne.symm (Nat.ne_of_lt I.big)), _, #[], 0, Heap.get?_push_size _ rfl, ⟨rfl, rfl, rfl⟩, rfl, rfl, List.nodup_nil⟩), rfl, h _ (I.hok.fresh (Nat.le_refl _))⟩⟩
/-- list(found) -/
theorem cr_listT (hc : X.calm = true) : CallR X (.type "list") (fun xs H Q => ∃ d ks, xs = [V.ref d] ∧ H d = some (DTO X.prog X.w d ks) ∧ ∀ p, H p = none → Q (.ref p) (upd H p (.lst (ks.map fun x => V.ref x.2.1)))) := by
  intro pins s σ H xs us Q I r h
  obtain ⟨d, ks, rfl, hd, q⟩ := h
  obtain ⟨u, rfl, rx⟩ := r.one
  cases rx
  obtain ⟨z, hs, o, es, ep, ho, hx, hdt, he, hn⟩ := dto_get I hd
  have l1 : es.size = ks.length := size_of_entries he
  refine PySem.W.kdl_call (kdl_raw hs hx hdt) (I.ok.hd hc) ho (by omega) fun h' tk acc' c' kp e it => ?_
  have ea : acc'.toList = ks.map fun x => Value.ref x.2.1 := by
    have hl : acc'.toList.length = ks.length := by rw [Array.length_toList, it.1]; exact l1
    apply List.ext_getElem?
    intro j
    rw [List.getElem?_map]
    cases hj : acc'.toList[j]? with
    | none =>
      have h1 := List.getElem?_eq_none_iff.mp hj
      rw [List.getElem?_eq_none (by omega)]
      all_goals rfl
    | some v =>
      obtain ⟨en, hen, hv⟩ := it.2 j v (by rw [← Array.getElem?_toList]; exact hj)
      have qe := entry_at he j
      rw [hen] at qe
      cases hb : ks[j]? with
      | none =>
        rw [hb] at qe
        exact nomatch (show some en = none from qe)
      | some b =>
        rw [hb] at qe
        have e2 : en = entryOfKey (TKd X.prog X.w) b := Option.some.inj qe
        rw [hv, e2]
        all_goals rfl
  have eb : acc'.toList = (ks.map fun x => x.2.1).map Value.ref := by rw [ea, List.map_map]; all_goals rfl
  have rv : Vals ((ks.map fun x => x.2.1).map V.ref) acc'.toList := by rw [eb]; exact vals_refs _
  have hz : ((ks.map fun x => x.2.1).map V.ref).length ≤ sizeLine := by rw [List.length_map, List.length_map]; omega
  have q1 := q s.heap.objs.size (I.hok.fresh (Nat.le_refl _))
  rw [show (ks.map fun x => V.ref x.2.1) = (ks.map fun x => x.2.1).map V.ref from by rw [List.map_map]; rfl] at q1
  refine ⟨.ref s.heap.objs.size, _, I.laid (t' := tk) (o := .lst ((ks.map fun x => x.2.1).map V.ref)) kp (Nat.le_refl _) ?_, rfl, q1⟩
  exact ⟨hz, acc'.toList, c', rv, by rw [Array.toArray_toList]; exact e⟩
end
end MPS

end
section
set_option linter.all false
set_option Elab.async false
set_option maxRecDepth 100000
set_option maxHeartbeats 4000000
/-! What the evaluator's data are in the hand layer's heap. -/
namespace MP
open PySem PySem.Spec PyProof.Rows L2

abbrev Sub (F H : Hp) : Prop := ∀ a o, F a = some o → H a = some o
theorem Sub.refl (F : Hp) : Sub F F := fun _ _ h => h
theorem Sub.trans {F G H : Hp} (a : Sub F G) (b : Sub G H) : Sub F H := fun x o h => b x o (a x o h)
theorem Sub.none {F H : Hp} (a : Sub F H) {p : Addr} (h : H p = none) : F p = none := by
  cases e : F p with
  | none => rfl
  | some o => rw [a p o e] at h; cases h
theorem Sub.upd {F H : Hp} (a : Sub F H) (p : Addr) (o : HO) : Sub (L2.upd F p o) (L2.upd H p o) := fun x u h => by
  by_cases e : x = p
  · subst e; rw [upd_same] at h ⊢; exact h
  · rw [upd_ne e] at h ⊢; exact a x u h
theorem Sub.new {F : Hp} {p : Addr} (h : F p = Option.none) (o : HO) : Sub F (L2.upd F p o) := fun x u e => by
  by_cases q : x = p
  · subst q; rw [h] at e; cases e
  · rw [upd_ne q]; exact e
theorem Sub.updL {F H : Hp} (a : Sub F H) {p : Addr} {o : HO} (h : H p = some o) : Sub (L2.upd F p o) H := fun x u e => by
  by_cases q : x = p
  · subst q; rw [upd_same] at e; cases e; exact h
  · rw [upd_ne q] at e; exact a x u e
theorem Sub.updR {F H : Hp} (a : Sub F H) {p : Addr} (h : F p = Option.none) (o : HO) : Sub F (L2.upd H p o) := fun x u e => by
  by_cases q : x = p
  · subst q; rw [h] at e; cases e
  · rw [upd_ne q]; exact a x u e

section
variable (K : PySem.W.Frag)
mutual
/-- v is the data d, all of it in F -/
inductive Rp (F : Hp) : V → D → Prop
  | non : Rp F .non .non
  | bl (b : Bool) : Rp F (.bl b) (.bl b)
  | int (i : Int) : Rp F (.int i) (.int i)
  | str (x : Str) : Rp F (.str x) (.str x)
  | tup {a : Addr} {xs : List V} {ds : List D} : SqT K F a xs → RpL F xs ds → Rp F (.ref a) (.tup ds)
  | lst {a : Addr} {xs : List V} {ds : List D} : F a = some (.lst xs) → RpL F xs ds → Rp F (.ref a) (.lst ds)
  | frz {a : Addr} {ns : List Int} : SqL K F a (ns.map V.int) → Rp F (.ref a) (.frz ns)
  | fn (x : Str) : Rp F (.ref (He.ga K x)) (.fn x)
  | dic {a : Addr} {kvs : List (Str × Int)} : F a = some (.dK (kvs.map fun p => (Sum.inr p.1, V.int p.2))) → Rp F (.ref a) (.dic kvs)
inductive RpL (F : Hp) : List V → List D → Prop
  | nil : RpL F [] []
  | cons {v : V} {vs : List V} {d : D} {ds : List D} : Rp F v d → RpL F vs ds → RpL F (v :: vs) (d :: ds)
end
end
section
variable {K : PySem.W.Frag}
theorem SqL.sub {F G : Hp} {a : Addr} {xs : List V} (s : Sub F G) (h : SqL K F a xs) : SqL K G a xs := by
  rcases h with h | h
  · rcases h with h | ⟨o, h⟩
    · exact .inl (.inl (s _ _ h))
    · exact .inl (.inr ⟨o, s _ _ h⟩)
  · exact .inr h
theorem SqT.sub {F G : Hp} {a : Addr} {xs : List V} (s : Sub F G) (h : SqT K F a xs) : SqT K G a xs := by
  rcases h with h | h
  · rcases h with h | ⟨o, h⟩
    · exact .inl (.inl (s _ _ h))
    · exact .inl (.inr ⟨o, s _ _ h⟩)
  · exact .inr h
mutual
theorem Rp.sub {F G : Hp} (s : Sub F G) : ∀ {v : V} {d : D}, Rp K F v d → Rp K G v d
  | _, _, .non => .non
  | _, _, .bl b => .bl b
  | _, _, .int i => .int i
  | _, _, .str x => .str x
  | _, _, .tup h l => .tup (SqT.sub s h) (RpL.sub s l)
  | _, _, .lst h l => .lst (s _ _ h) (RpL.sub s l)
  | _, _, .frz h => .frz (SqL.sub s h)
  | _, _, .fn x => .fn x
  | _, _, .dic h => .dic (s _ _ h)
theorem RpL.sub {F G : Hp} (s : Sub F G) : ∀ {v : List V} {d : List D}, RpL K F v d → RpL K G v d
  | _, _, .nil => .nil
  | _, _, .cons h t => .cons (Rp.sub s h) (RpL.sub s t)
end
theorem RpL.length {F : Hp} : ∀ {xs : List V} {ds : List D}, RpL K F xs ds → xs.length = ds.length
  | _, _, .nil => rfl
  | _, _, .cons _ t => congrArg Nat.succ (RpL.length t)
theorem RpL.append {F : Hp} : ∀ {xs ys : List V} {ds es : List D}, RpL K F xs ds → RpL K F ys es → RpL K F (xs ++ ys) (ds ++ es)
  | _, _, _, _, .nil, h => h
  | _, _, _, _, .cons h t, q => .cons h (RpL.append t q)
theorem RpL.get {F : Hp} : ∀ {xs : List V} {ds : List D} {i : Nat} {d : D}, RpL K F xs ds → ds[i]? = some d → ∃ v, xs[i]? = some v ∧ Rp K F v d
  | _, _, _, _, .nil, e => by simp at e
  | _, _, 0, _, .cons (v := v) h _, e => by simp at e; subst e; exact ⟨v, rfl, h⟩
  | _, _, i + 1, _, .cons _ t, e => by
    obtain ⟨v, h1, h2⟩ := RpL.get (i := i) t (by simpa using e)
    exact ⟨v, by simpa using h1, h2⟩
theorem RpL.get' {F : Hp} : ∀ {xs : List V} {ds : List D} {i : Nat} {v : V}, RpL K F xs ds → xs[i]? = some v → ∃ d, ds[i]? = some d ∧ Rp K F v d
  | _, _, _, _, .nil, e => by simp at e
  | _, _, 0, _, .cons (d := d) h _, e => by simp at e; subst e; exact ⟨d, rfl, h⟩
  | _, _, i + 1, _, .cons _ t, e => by
    obtain ⟨v, h1, h2⟩ := RpL.get' (i := i) t (by simpa using e)
    exact ⟨v, by simpa using h1, h2⟩
theorem RpL.set {F : Hp} {v : V} {d : D} (h : Rp K F v d) : ∀ {xs : List V} {ds : List D} (i : Nat), RpL K F xs ds → RpL K F (xs.set i v) (ds.set i d)
  | _, _, _, .nil => .nil
  | _, _, 0, .cons _ t => .cons h t
  | _, _, i + 1, .cons q t => .cons q (RpL.set h i t)
theorem RpL.take {F : Hp} : ∀ {xs : List V} {ds : List D} (n : Nat), RpL K F xs ds → RpL K F (xs.take n) (ds.take n)
  | _, _, 0, _ => .nil
  | _, _, _ + 1, .nil => .nil
  | _, _, n + 1, .cons r t => .cons r (RpL.take n t)
theorem RpL.drop {F : Hp} : ∀ {xs : List V} {ds : List D} (n : Nat), RpL K F xs ds → RpL K F (xs.drop n) (ds.drop n)
  | _, _, 0, r => r
  | _, _, _ + 1, .nil => .nil
  | _, _, n + 1, .cons _ t => RpL.drop n t
theorem RpL.reverse {F : Hp} : ∀ {xs : List V} {ds : List D}, RpL K F xs ds → RpL K F xs.reverse ds.reverse
  | _, _, .nil => .nil
  | _, _, .cons h t => by
    rw [List.reverse_cons, List.reverse_cons]
    exact RpL.append (RpL.reverse t) (.cons h .nil)
theorem RpL.rep {F : Hp} {xs : List V} {ds : List D} (h : RpL K F xs ds) : ∀ k : Nat, RpL K F (List.replicate k xs).flatten (rep k ds)
  | 0 => .nil
  | k + 1 => by
    unfold MP.rep
    rw [List.replicate_succ, List.replicate_succ, List.flatten_cons, List.flatten_cons]
    exact RpL.append h (RpL.rep h k)
theorem RpL.ints {F : Hp} : ∀ ns : List Int, RpL K F (ns.map V.int) (ns.map D.int)
  | [] => .nil
  | n :: r => .cons (.int n) (RpL.ints r)
theorem RpL.strs {F : Hp} : ∀ ns : List (List Nat), RpL K F (ns.map fun l => V.str ⟨l.toArray⟩) (ns.map S)
  | [] => .nil
  | n :: r => .cons (.str _) (RpL.strs r)

/-! ### the state -/
/-- slot i holds an object of one's own, at a -/
def OwnAt (σ : L2.St) (ρ : En) (i : Nat) (a : Addr) : Prop := σ[i]? = some (some (.ref a)) ∧ ((∃ ds, ρ[i]? = some (.ow ds)) ∨ ∃ kvs, ρ[i]? = some (.od kvs))
/-- a dict whose keys are tuples of ints -/
def KvL (K : PySem.W.Frag) (F : Hp) : List (List Key × Addr × Value) → List (List Int × D) → Prop := Paired fun x q => x.1 = q.1.map Sum.inl ∧ SqT K F x.2.1 (q.1.map V.int) ∧ ∃ v, RelV v x.2.2 ∧ Rp K F v q.2
theorem KvL.sub {F G : Hp} (s : Sub F G) {ws : List (List Key × Addr × Value)} {kvs : List (List Int × D)} (h : KvL K F ws kvs) : KvL K G ws kvs := Paired.mapP h fun _ _ ⟨z1, z2, v, z3, z4⟩ => ⟨z1, SqT.sub s z2, v, z3, z4.sub s⟩


/-- what a def's state hangs on beside the program: its own first list, the tables of code objects -/
structure Oa where
  own : Option Addr
  ts : List (Addr × Str)
structure Sok (K : PySem.W.Frag) (cn : Program × World × Oa) (Z F H : Hp) (σ : L2.St) (ρ : En) : Prop where
  fh : Sub F H
  zh : Sub Z H
  zf : ∀ a, Z a ≠ none → F a = none
  zt : ∀ a xs, Z a ≠ some (.tup xs)
  len : σ.length = ρ.length
  fz : ∀ (i : Nat) (d : D), ρ[i]? = some (.fz d) → ∃ v, σ[i]? = some (some v) ∧ Rp K F v d
  ow : ∀ (i : Nat) (ds : List D), ρ[i]? = some (.ow ds) → ∃ a xs, σ[i]? = some (some (.ref a)) ∧ H a = some (.lst xs) ∧ RpL K F xs ds ∧ F a = none ∧ Z a = none
  od : ∀ (i : Nat) (kvs : List (List Int × D)), ρ[i]? = some (.od kvs) → ∃ a ws, σ[i]? = some (some (.ref a)) ∧ H a = some (MPS.DTO cn.1 cn.2.1 a ws) ∧ KvL K F ws kvs ∧ F a = none ∧ Z a = none
  dj : ∀ (i j : Nat) (a : Addr), OwnAt σ ρ i a → OwnAt σ ρ j a → i = j
  p0 : ∀ a, cn.2.2.own = some a → σ[0]? = some (some (.ref a))
  tb : ∀ p ∈ cn.2.2.ts, LamX.TabS H p.1 p.2 ∧ F p.1 = none ∧ Z p.1 = none

variable {cn : Program × World × Oa} {Z F H : Hp} {σ : L2.St} {ρ : En}
theorem Sok.own_there (S : Sok K cn Z F H σ ρ) {i : Nat} {a : Addr} (h : OwnAt σ ρ i a) : (∃ o, H a = some o ∧ ∀ xs, o ≠ .tup xs) ∧ F a = none ∧ Z a = none := by
  obtain ⟨e, ⟨ds, h⟩ | ⟨kvs, h⟩⟩ := h
  · obtain ⟨b, xs, e2, h1, _, h2, h3⟩ := S.ow i ds h
    rw [e] at e2; cases e2
    exact ⟨⟨_, h1, fun _ z => by cases z⟩, h2, h3⟩
  · obtain ⟨b, xs, e2, h1, _, h2, h3⟩ := S.od i kvs h
    rw [e] at e2; cases e2
    exact ⟨⟨_, h1, fun _ z => by unfold MPS.DTO at z; cases z⟩, h2, h3⟩
theorem Sok.own_ne (S : Sok K cn Z F H σ ρ) {p : Addr} (h : H p = none) {i : Nat} : ¬ OwnAt σ ρ i p := fun q => by
  obtain ⟨⟨o, e, _⟩, _⟩ := S.own_there q
  rw [h] at e; cases e
theorem Sok.znone (S : Sok K cn Z F H σ ρ) {p : Addr} (h : H p = none) : Z p = none := S.zh.none h
theorem Sok.fnone (S : Sok K cn Z F H σ ρ) {p : Addr} (h : H p = none) : F p = none := S.fh.none h
theorem upd_of {H : Hp} {p a : Addr} {o u : HO} (hp : H p = none) (h : H a = some u) : L2.upd H p o a = some u := by
  rw [upd_ne (ne_of_none h hp)]; exact h
theorem tabS_upd {H : Hp} {q : Addr} {o : HO} {P : Addr} {x : Str} (hq : H q = none) (t : LamX.TabS H P x) : LamX.TabS (L2.upd H q o) P x := t.ext fun b u h => upd_of hq h
theorem tabS_ne {H : Hp} {P q : Addr} {x : Str} {o : HO} (t : LamX.TabS H P x) (hq : H q = some o) (ho : ∀ ps, o ≠ .tbl ps) : P ≠ q := fun e => by
  obtain ⟨ps, h, _⟩ := t
  rw [e, hq] at h
  exact ho ps (Option.some.inj h)
theorem dto_not_code {P : Program} {w : World} {q : Addr} {xs : List (List Key × Addr × Value)} {x : Str} : MPS.DTO P w q xs ≠ LamX.CodeO q x := fun e => by
  unfold MPS.DTO LamX.CodeO at e
  have e := HO.ext.inj e
  let o : Obj := { cls := .none, data := .fields #[.none, .str x 0] }
  let h : Heap := { objs := Array.replicate (q + 1) o }
  have hg : h.get? q = some o := by
    show (match (Array.replicate (q + 1) o)[q]? with | some ⟨_, _, .freed, _⟩ => none | o => o) = _
    rw [Array.getElem?_replicate, if_pos (Nat.lt_succ_self q)]
  have h1 : MPS.DT0 P w q xs h := by
    rw [e]
    exact ⟨o, _, 0, hg, rfl, rfl⟩
  obtain ⟨_, _, o', es, ep, g1, _, g2, _⟩ := h1
  rw [hg] at g1
  cases g1
  cases g2
theorem lst_not_code {q : Addr} {xs : List V} {x : Str} : HO.lst xs ≠ LamX.CodeO q x := fun e => by unfold LamX.CodeO at e; cases e
theorem tabS_keep {H : Hp} {P q : Addr} {x : Str} {o o' : HO} (t : LamX.TabS H P x) (hq : H q = some o) (ho : ∀ ps, o ≠ .tbl ps) (hc : ∀ x, o ≠ LamX.CodeO q x) : LamX.TabS (L2.upd H q o') P x := by
  have hP := tabS_ne t hq ho
  obtain ⟨ps, h1, h2, h3⟩ := t
  refine ⟨ps, by rw [upd_ne hP]; exact h1, h2, fun pos cv hcv => ?_⟩
  obtain ⟨c, e1, e2⟩ := h3 pos cv hcv
  refine ⟨c, e1, ?_⟩
  rw [upd_ne (fun e => by rw [e, hq] at e2; exact hc x (Option.some.inj e2))]
  exact e2
/-- a new object, not told -/
theorem Sok.new (S : Sok K cn Z F H σ ρ) {p : Addr} (hp : H p = none) (o : HO) : Sok K cn Z F (L2.upd H p o) σ ρ where
  tb := fun t ht => let ⟨a, b, c⟩ := S.tb t ht; ⟨tabS_upd hp a, b, c⟩
  fh := S.fh.updR (S.fnone hp) o
  zh := S.zh.updR (S.znone hp) o
  zf := S.zf
  zt := S.zt
  len := S.len
  fz := S.fz
  ow := fun i ds h => let ⟨a, xs, e, h1, h2, h3, h4⟩ := S.ow i ds h; ⟨a, xs, e, upd_of hp h1, h2, h3, h4⟩
  od := fun i ds h => let ⟨a, xs, e, h1, h2, h3, h4⟩ := S.od i ds h; ⟨a, xs, e, upd_of hp h1, h2, h3, h4⟩
  dj := S.dj
  p0 := S.p0
/-- more is told: an object at p of which nobody else knows -/
theorem Sok.tell (S : Sok K cn Z F H σ ρ) {p : Addr} {o : HO} (hp : H p = some o) (hf : F p = none) (hz : Z p = none) (no : ∀ i, ¬ OwnAt σ ρ i p) (nt : ∀ t ∈ cn.2.2.ts, t.1 ≠ p) : Sok K cn Z (L2.upd F p o) H σ ρ where
  tb := fun t ht => let ⟨a, b, c⟩ := S.tb t ht; ⟨a, by rw [upd_ne (nt t ht)]; exact b, c⟩
  fh := S.fh.updL hp
  zh := S.zh
  zf := fun a h => by rw [upd_ne (fun (e : a = p) => h (by rw [e]; exact hz))]; exact S.zf a h
  zt := S.zt
  len := S.len
  fz := fun i d h => let ⟨v, e, r⟩ := S.fz i d h; ⟨v, e, r.sub (Sub.new hf o)⟩
  ow := fun i ds h => let ⟨a, xs, e, h1, h2, h3, h4⟩ := S.ow i ds h; ⟨a, xs, e, h1, h2.sub (Sub.new hf o), by rw [upd_ne (fun q => no i ⟨by rw [e, q], .inl ⟨ds, h⟩⟩)]; exact h3, h4⟩
  od := fun i ds h => let ⟨a, xs, e, h1, h2, h3, h4⟩ := S.od i ds h; ⟨a, xs, e, h1, h2.sub (Sub.new hf o), by rw [upd_ne (fun q => no i ⟨by rw [e, q], .inr ⟨ds, h⟩⟩)]; exact h3, h4⟩
  dj := S.dj
  p0 := S.p0
/-- a new object, told -/
theorem Sok.newT (S : Sok K cn Z F H σ ρ) {p : Addr} (hp : H p = none) (o : HO) : Sok K cn Z (L2.upd F p o) (L2.upd H p o) σ ρ :=
  (S.new hp o).tell upd_same (S.fnone hp) (S.znone hp) (fun _ => S.own_ne hp) fun t ht e => by
    obtain ⟨ps, h, _⟩ := (S.tb t ht).1
    rw [e, hp] at h; cases h
/-- no table stands where a list does -/
theorem Sok.not_tab (S : Sok K cn Z F H σ ρ) {p : Addr} {o : HO} (hp : H p = some o) (ho : ∀ ps, o ≠ .tbl ps) : ∀ t ∈ cn.2.2.ts, t.1 ≠ p := fun t ht => tabS_ne (S.tb t ht).1 hp ho
theorem Sok.subT (S : Sok K cn Z F H σ ρ) {p : Addr} (hp : H p = none) (o : HO) : Sub F (L2.upd F p o) := Sub.new (S.fnone hp) o

/-- what an expression has given -/
def RR (K : PySem.W.Frag) (Z F H : Hp) (σ : L2.St) (ρ : En) (v : V) : R → Prop
  | .v d => Rp K F v d
  | .o ds => ∃ a xs, v = .ref a ∧ H a = some (.lst xs) ∧ RpL K F xs ds ∧ F a = none ∧ Z a = none ∧ ∀ i, ¬ OwnAt σ ρ i a
/-- .. as data -/
theorem Sok.data (S : Sok K cn Z F H σ ρ) {v : V} {r : R} (h : RR K Z F H σ ρ v r) : ∃ F', Sub F F' ∧ Sok K cn Z F' H σ ρ ∧ Rp K F' v r.d := by
  cases r with
  | v d => exact ⟨F, Sub.refl F, S, h⟩
  | o ds =>
    obtain ⟨a, xs, rfl, h1, h2, h3, h4, h5⟩ := h
    refine ⟨L2.upd F a (.lst xs), Sub.new h3 _, S.tell h1 h3 h4 h5 (S.not_tab h1 fun _ z => by cases z), ?_⟩
    exact .lst upd_same (h2.sub (Sub.new h3 _))
end
end MP

end
section
set_option linter.all false
set_option Elab.async false
set_option maxRecDepth 100000
set_option maxHeartbeats 4000000
/-! Expressions: readings by the evaluator. -/
namespace MP
open PySem PySem.Spec PyProof.Rows L2

def Post {α : Type} (o : Out (α × En)) (P : α → En → Prop) (E : Ex → Prop) : Prop := match o with
  | .ok (a, ρ) => P a ρ
  | .err e => E e
  | .bad => False
theorem Post.bind {α β : Type} {o : Out (α × En)} {g : α × En → Out (β × En)} {P : β → En → Prop} {E : Ex → Prop} (h : Post (o.bind g) P E) :
    Post o (fun a ρ => Post (g (a, ρ)) P E) E := by
  cases o with
  | ok p => exact h
  | err e => exact h
  | bad => exact h
theorem Post.bind0 {α β : Type} {o : Out α} {g : α → Out (β × En)} {P : β → En → Prop} {E : Ex → Prop} (h : Post (o.bind g) P E) (hn : ∀ e, o ≠ .err e) : ∃ a, o = .ok a ∧ Post (g a) P E := by
  cases o with
  | ok p => exact ⟨p, rfl, h⟩
  | err e => exact absurd rfl (hn e)
  | bad => exact h.elim
theorem Post.imp {α : Type} {o : Out (α × En)} {P P' : α → En → Prop} {E E' : Ex → Prop} (h : Post o P E) (hp : ∀ a ρ, P a ρ → P' a ρ) (he : ∀ e, E e → E' e) : Post o P' E' := by
  cases o with
  | ok p => exact hp _ _ h
  | err e => exact he e h
  | bad => exact h

section
variable (K : PySem.W.Frag) (cn : Program × World × Oa)
/-- what is to hold where an error leaves -/
def EE (Z F : Hp) (W : WX) (σ : L2.St) (e : Ex) : Prop :=
  ∀ F' H', Sub F F' → Sub F' H' → Sub Z H' → (∀ a, Z a ≠ none → F' a = none) → (∀ t ∈ cn.2.2.ts, LamX.TabS H' t.1 t.2 ∧ F' t.1 = none) → W (.ref (He.ga K e.cls)) none σ H'
/-- the reading of an expression -/
def tE (W : WX) (f : En → Out (R × En)) : TE := fun σ H Q => ∃ Z F ρ, Sok K cn Z F H σ ρ ∧
  Post (f ρ) (fun r ρ' => ∀ v F' H', Sub F F' → Sok K cn Z F' H' σ ρ' → RR K Z F' H' σ ρ' v r → Q v H') (EE K cn Z F W σ)
/-- .. of a test -/
def tT (W : WX) (f : En → Out (Bool × En)) : TT := fun σ H Q => ∃ Z F ρ, Sok K cn Z F H σ ρ ∧
  Post (f ρ) (fun b ρ' => ∀ F' H', Sub F F' → Sok K cn Z F' H' σ ρ' → Q b H') (EE K cn Z F W σ)
/-- .. of arguments -/
def tA (W : WX) (f : En → Out (List D × En)) : TA := fun σ H Q => ∃ Z F ρ, Sok K cn Z F H σ ρ ∧
  Post (f ρ) (fun ds ρ' => ∀ vs F' H', Sub F F' → Sok K cn Z F' H' σ ρ' → RpL K F' vs ds → Q vs H') (EE K cn Z F W σ)
/-- .. of a slice's part -/
def tO (W : WX) (f : En → Out (Option Int × En)) : TO := fun σ H Q => ∃ Z F ρ, Sok K cn Z F H σ ρ ∧
  Post (f ρ) (fun o ρ' => ∀ F' H', Sub F F' → Sok K cn Z F' H' σ ρ' → Q o H') (EE K cn Z F W σ)
/-- what is walked: its items -/
def Wk (F0 : Hp) (J : It) (ds : List D) : Prop := ∀ (i : Nat) Z F H σ ρ, Sub F0 F → Sok K cn Z F H σ ρ →
  (∀ d, ds[i]? = some d → J.go i H ∧ ∀ x H', J.yld i H x H' → ∃ F', Sub F F' ∧ Sok K cn Z F' H' σ ρ ∧ Rp K F' x d) ∧ (ds[i]? = none → J.stop i H)
def tI (W : WX) (f : En → Out (List D × En)) : TI := fun σ H Q => ∃ Z F ρ, Sok K cn Z F H σ ρ ∧
  Post (f ρ) (fun ds ρ' => ∀ J F' H', Sub F F' → Sok K cn Z F' H' σ ρ' → Wk K cn F' J ds → ds.length ≤ sizeLine → Q J H') (EE K cn Z F W σ)
end
section
variable {K : PySem.W.Frag} {cn : Program × World × Oa} {Z F H : Hp} {σ : L2.St} {ρ : En} {W : WX}
theorem EE.sub {F' : Hp} {e : Ex} (h : EE K cn Z F W σ e) (s : Sub F F') : EE K cn Z F' W σ e := fun F2 H2 a b c d t => h F2 H2 (s.trans a) b c d t
theorem tE.at {f : En → Out (R × En)} (S : Sok K cn Z F H σ ρ) {Q : VK} (h : Post (f ρ) (fun r ρ' => ∀ v F' H', Sub F F' → Sok K cn Z F' H' σ ρ' → RR K Z F' H' σ ρ' v r → Q v H') (EE K cn Z F W σ)) : tE K cn W f σ H Q := ⟨Z, F, ρ, S, h⟩
/-- an expression, then what comes of its data -/
theorem tE.seq {β : Type} {f : En → Out (R × En)} {g : R × En → Out (β × En)} {P : β → En → Prop} (S : Sok K cn Z F H σ ρ) (hp : Post ((f ρ).bind g) P (EE K cn Z F W σ)) {Q : VK}
    (k : ∀ r ρ1 v F1 H1, Sub F F1 → Sok K cn Z F1 H1 σ ρ1 → Rp K F1 v r.d → Post (g (r, ρ1)) P (EE K cn Z F1 W σ) → Q v H1) : tE K cn W f σ H Q := by
  refine tE.at S ((Post.bind hp).imp (fun r ρ1 h v F1 H1 s1 S1 rr => ?_) fun _ h => h)
  obtain ⟨F2, s2, S2, r2⟩ := S1.data rr
  exact k r ρ1 v F2 H1 (s1.trans s2) S2 r2 (h.imp (fun _ _ x => x) fun e x => x.sub (s1.trans s2))
theorem tT.seq {β : Type} {f : En → Out (Bool × En)} {g : Bool × En → Out (β × En)} {P : β → En → Prop} (S : Sok K cn Z F H σ ρ) (hp : Post ((f ρ).bind g) P (EE K cn Z F W σ)) {Q : Bool → Hp → Prop}
    (k : ∀ b ρ1 F1 H1, Sub F F1 → Sok K cn Z F1 H1 σ ρ1 → Post (g (b, ρ1)) P (EE K cn Z F1 W σ) → Q b H1) : tT K cn W f σ H Q :=
  ⟨Z, F, ρ, S, (Post.bind hp).imp (fun b ρ1 h F1 H1 s1 S1 => k b ρ1 F1 H1 s1 S1 (h.imp (fun _ _ x => x) fun e x => x.sub s1)) fun _ h => h⟩
theorem tA.seq {β : Type} {f : En → Out (List D × En)} {g : List D × En → Out (β × En)} {P : β → En → Prop} (S : Sok K cn Z F H σ ρ) (hp : Post ((f ρ).bind g) P (EE K cn Z F W σ)) {Q : List V → Hp → Prop}
    (k : ∀ ds ρ1 vs F1 H1, Sub F F1 → Sok K cn Z F1 H1 σ ρ1 → RpL K F1 vs ds → Post (g (ds, ρ1)) P (EE K cn Z F1 W σ) → Q vs H1) : tA K cn W f σ H Q :=
  ⟨Z, F, ρ, S, (Post.bind hp).imp (fun b ρ1 h vs F1 H1 s1 S1 r1 => k b ρ1 vs F1 H1 s1 S1 r1 (h.imp (fun _ _ x => x) fun e x => x.sub s1)) fun _ h => h⟩
theorem tO.seq {β : Type} {f : En → Out (Option Int × En)} {g : Option Int × En → Out (β × En)} {P : β → En → Prop} (S : Sok K cn Z F H σ ρ) (hp : Post ((f ρ).bind g) P (EE K cn Z F W σ)) {Q : Option Int → Hp → Prop}
    (k : ∀ o ρ1 F1 H1, Sub F F1 → Sok K cn Z F1 H1 σ ρ1 → Post (g (o, ρ1)) P (EE K cn Z F1 W σ) → Q o H1) : tO K cn W f σ H Q :=
  ⟨Z, F, ρ, S, (Post.bind hp).imp (fun b ρ1 h F1 H1 s1 S1 => k b ρ1 F1 H1 s1 S1 (h.imp (fun _ _ x => x) fun e x => x.sub s1)) fun _ h => h⟩
theorem PE.weak {X : Cx} {e : Expr} {t t' : TE} (h : PE X e t) (w : ∀ σ H Q, t' σ H Q → t σ H Q) : PE X e t' := ⟨fun pins s σ H Q I q => h.run pins s σ H Q I (w σ H Q q)⟩
theorem PT.weak {X : Cx} {e : Expr} {t t' : TT} (h : PT X e t) (w : ∀ σ H Q, t' σ H Q → t σ H Q) : PT X e t' := ⟨fun pins s σ H Q I q => h.run pins s σ H Q I (w σ H Q q)⟩
theorem PA.weak {X : Cx} {e : List Expr} {t t' : TA} (h : PA X e t) (w : ∀ σ H Q, t' σ H Q → t σ H Q) : PA X e t' := ⟨fun pos pins s σ H Q I q => h.run pos pins s σ H Q I (w σ H Q q)⟩
theorem PO.weak {X : Cx} {e : Option Expr} {t t' : TO} (h : PO X e t) (w : ∀ σ H Q, t' σ H Q → t σ H Q) : PO X e t' := ⟨fun pins s σ H Q I q => h.run pins s σ H Q I (w σ H Q q)⟩
theorem PS.weak {X : Cx} {e : Stmt} {t t' : TS} (h : PS X e t) (w : ∀ D σ H, t' D σ H → t D σ H) : PS X e t' := ⟨fun pins s σ H D I q => h.run pins s σ H D I (w D σ H q)⟩
theorem PSs.weak {X : Cx} {e : List Stmt} {t t' : TS} (h : PSs X e t) (w : ∀ D σ H, t' D σ H → t D σ H) : PSs X e t' := ⟨fun pins s σ H D I q => h.run pins s σ H D I (w D σ H q)⟩
theorem PI.weak {X : Cx} {tg e : Expr} {t t' : TI} (h : PI X tg e t) (w : ∀ σ H Q, t' σ H Q → t σ H Q) : PI X tg e t' := ⟨fun pins s σ H Q I q => h.run pins s σ H Q I (w σ H Q q)⟩

theorem Rp.inv_int {v : V} {i : Int} (h : Rp K F v (.int i)) : v = .int i := by cases h; rfl
theorem Rp.inv_bl {v : V} {b : Bool} (h : Rp K F v (.bl b)) : v = .bl b := by cases h; rfl
theorem Rp.inv_str {v : V} {b : Str} (h : Rp K F v (.str b)) : v = .str b := by cases h; rfl
theorem Rp.inv_non {v : V} (h : Rp K F v .non) : v = .non := by cases h; rfl
theorem Rp.inv_tup {v : V} {ds : List D} (h : Rp K F v (.tup ds)) : ∃ a xs, v = .ref a ∧ SqT K F a xs ∧ RpL K F xs ds := by cases h with | tup a b => exact ⟨_, _, rfl, a, b⟩
theorem Rp.inv_lst {v : V} {ds : List D} (h : Rp K F v (.lst ds)) : ∃ a xs, v = .ref a ∧ F a = some (.lst xs) ∧ RpL K F xs ds := by cases h with | lst a b => exact ⟨_, _, rfl, a, b⟩

/-! ### operators on values -/
/-- bools among ints -/
def rAddB : R2 := fun x y H Q => ∃ b j, x = .bl b ∧ y = .int j ∧ Q (.int (b2 b + j)) H
def rSubB : R2 := fun x y H Q => ∃ b j, x = .bl b ∧ y = .int j ∧ Q (.int (b2 b - j)) H
def rMulB : R2 := fun x y H Q => ∃ i b, x = .int i ∧ y = .bl b ∧ Q (.int (i * b2 b)) H
theorem op_addB {X : Cx} : OpR X (binaryOp .Add) rAddB := by
  intro pins s σ H x y v u Q I rx ry h
  obtain ⟨b, j, rfl, rfl, q⟩ := h
  cases rx
  obtain ⟨t, rfl⟩ := ry
  exact PySem.IntBool.add_bool_int ⟨.int (b2 b + j), H, I.tok _, ⟨_, rfl⟩, q⟩
theorem op_subB {X : Cx} : OpR X (binaryOp .Sub) rSubB := by
  intro pins s σ H x y v u Q I rx ry h
  obtain ⟨b, j, rfl, rfl, q⟩ := h
  cases rx
  obtain ⟨t, rfl⟩ := ry
  exact PySem.IntBool.sub_bool_int ⟨.int (b2 b - j), H, I.tok _, ⟨_, rfl⟩, q⟩
theorem op_mulB {X : Cx} : OpR X (binaryOp .Mult) rMulB := by
  intro pins s σ H x y v u Q I rx ry h
  obtain ⟨i, b, rfl, rfl, q⟩ := h
  obtain ⟨t, rfl⟩ := rx
  cases ry
  exact PySem.IntBool.mul_int_bool ⟨.int (i * b2 b), H, I.tok _, ⟨_, rfl⟩, q⟩
def rAddD (K : PySem.W.Frag) : R2 := fun x y H Q => rI0 (fun i j => .int (i + j)) x y H Q ∨ ((∃ i j, x = .str i ∧ y = .str j ∧ i.length + j.length ≤ sizeLine ∧ Q (.str (i ++ j)) H) ∨ (rCat x y H Q ∨ (rCatA K x y H Q ∨ rAddB x y H Q)))
/-- text * int -/
def rRepS : R2 := fun x y H Q => ∃ (a : Str) (j : Int), x = .str a ∧ y = .int j ∧ 0 < a.cps.size ∧ 2 ≤ j ∧ j ≤ 1000 ∧ a.cps.size ≤ 1000 ∧ Q (.str (repS j.toNat a)) H
theorem op_repS {X : Cx} : OpR X (binaryOp .Mult) rRepS := by
  intro pins s σ H x y v u Q I rx ry h
  obtain ⟨a, j, rfl, rfl, h0, h1, h2, h3, q⟩ := h
  obtain ⟨t, rfl⟩ := rx
  obtain ⟨t2, rfl⟩ := ry
  have hlen : a.length = a.cps.size := rfl
  have hc : (j == 1 || a.length == 0) = false := by
    rw [Bool.or_eq_false_iff]
    refine ⟨beq_eq_false_iff_ne.mpr (by omega), beq_eq_false_iff_ne.mpr (by omega)⟩
  have hm : a.length * j.toNat ≤ 1000 * 1000 := Nat.mul_le_mul (by omega) (by omega)
  have hr : ∀ n : Nat, ((List.replicate n a.cps).foldl (· ++ ·) #[]).size = n * a.cps.size := by
    intro n
    have key : ∀ (n : Nat) (z : Array Nat), ((List.replicate n a.cps).foldl (· ++ ·) z).size = z.size + n * a.cps.size := by
      intro n
      induction n with
      | zero => intro z; simp
      | succ n ih =>
        intro z
        rw [List.replicate_succ, List.foldl_cons, ih, Array.size_append, Nat.succ_mul]
        omega
    rw [key n #[]]; simp
  refine PySem.P.mul_str ?_ ?_ ?_ ?_
  · rw [decide_eq_false (by omega), decide_eq_false (by omega)]; rfl
  · intro _ _
    have : (a.length : Int) ≤ 1000 := by omega
    intro z
    have h5 : (1000 : Int) ≤ (2 ^ 63 - 1 : Int) / j := Int.le_ediv_of_mul_le (by omega) (by omega)
    omega
  · intro _ _
    exact PyProof.Rows.short24 (by omega)
  · rw [if_neg (by omega), if_neg (by rw [hc]; simp)]
    refine ⟨?_, .str (repS j.toNat a), H, I.tok _, ⟨_, rfl⟩, q⟩
    show ((List.replicate j.toNat a.cps).foldl (· ++ ·) #[]).size ≤ sizeLine
    rw [hr]
    have h5 : j.toNat * a.cps.size ≤ 1000 * 1000 := Nat.mul_le_mul (by omega) h3
    have h6 : (1000 * 1000 : Nat) ≤ sizeLine := by decide
    omega
def rMulD (K : PySem.W.Frag) : R2 := fun x y H Q => rI CMul (fun i j => .int (i * j)) x y H Q ∨ (rI CMulW (fun i j => .int (i * j)) x y H Q ∨ (rRep x y H Q ∨ (rRepT K x y H Q ∨ (rRepS x y H Q ∨ rMulB x y H Q))))
def rBin (K : PySem.W.Frag) : Op2 → R2
  | .add => rAddD K
  | .sub => fun x y H Q => rI0 (fun i j => .int (i - j)) x y H Q ∨ rSubB x y H Q
  | .mul => rMulD K
  | .fdiv => rI CDivW fun i j => .int (i / j)
  | .mod => rI (fun _ j => 0 < j) fun i j => .int (i % j)
  | .pow => rI CPow fun i j => .int (i ^ j.toNat)
def opOf : Op2 → Operator
  | .add => .Add | .sub => .Sub | .mul => .Mult | .fdiv => .FloorDiv | .mod => .Mod | .pow => .Pow
theorem op_bin {X : Cx} (o : Op2) : OpR X (binaryOp (opOf o)) (rBin X.K o) := by
  cases o with
  | add => exact op_add.or (op_add_str.or (op_cat.or (op_catA.or op_addB)))
  | sub => exact op_sub.or op_subB
  | mul => exact op_mul.or (op_mulW.or (op_rep.or (op_repT.or (op_repS.or op_mulB))))
  | fdiv => exact op_fdivW
  | mod => exact op_mod
  | pow => exact op_pow

theorem line_eq : line = sizeLine := by decide
theorem RR.new_lst (S : Sok K cn Z F H σ ρ) {p : Addr} (hp : H p = none) {xs : List V} {ds : List D} (h : RpL K F xs ds) : RR K Z F (L2.upd H p (.lst xs)) σ ρ (.ref p) (.o ds) :=
  ⟨p, xs, rfl, upd_same, h, S.fnone hp, S.znone hp, fun i => S.own_ne hp⟩
theorem Rp.new_tup (S : Sok K cn Z F H σ ρ) {p : Addr} (hp : H p = none) {xs : List V} {ds : List D} (h : RpL K F xs ds) : Rp K (L2.upd F p (.tup xs)) (.ref p) (.tup ds) :=
  .tup (SqT.of upd_same) (h.sub (S.subT hp _))
theorem RpL.nil_iff {xs : List V} {ds : List D} (h : RpL K F xs ds) : xs = [] ↔ ds = [] := by cases h <;> simp

theorem bin_ok {o : Op2} {x y : V} {a b : D} {r : R} (S : Sok K cn Z F H σ ρ) (hx : Rp K F x a) (hy : Rp K F y b) (hb : bin2 o a b = .ok r) {Q : VK}
    (k : ∀ v F' H', Sub F F' → Sok K cn Z F' H' σ ρ → RR K Z F' H' σ ρ v r → Q v H') : rBin K o x y H Q := by
  unfold bin2 at hb
  split at hb
  · cases hx; cases hy; cases hb
    exact .inl ⟨_, _, rfl, rfl, k _ F H (Sub.refl F) S (.int _)⟩
  · cases hx; cases hy
    split at hb
    · rename_i hl
      cases hb
      refine .inr (.inl ⟨_, _, rfl, rfl, by rw [← line_eq]; exact hl, k _ F H (Sub.refl F) S (.str _)⟩)
    · cases hb
  · obtain ⟨p, xs, rfl, h1, h2⟩ := hx.inv_lst
    obtain ⟨q, ys, rfl, h3, h4⟩ := hy.inv_lst
    split at hb
    · rename_i hl
      cases hb
      refine .inr (.inr (.inl ⟨p, q, xs, ys, rfl, rfl, S.fh _ _ h1, S.fh _ _ h3, by rw [h2.length, h4.length, ← line_eq]; exact hl, fun t ht => ?_⟩))
      exact k _ F _ (Sub.refl F) (S.new ht _) (RR.new_lst S ht (h2.append h4))
    · cases hb
  · obtain ⟨p, xs, rfl, h1, h2⟩ := hx.inv_tup
    obtain ⟨q, ys, rfl, h3, h4⟩ := hy.inv_tup
    split at hb
    · rename_i hl
      cases hb
      refine .inr (.inr (.inr (.inl ⟨p, q, xs, ys, rfl, rfl, SqT.sub S.fh h1, SqT.sub S.fh h3, by rw [h2.length, h4.length, ← line_eq]; exact hl, ?_⟩)))
      cases h2 with
      | nil =>
        refine ⟨fun _ => k _ F H (Sub.refl F) S (.tup h3 h4), fun h => absurd rfl h, fun h => absurd rfl h⟩
      | cons a1 a2 =>
        refine ⟨(fun e => nomatch e), fun _ e => ?_, fun _ _ t ht => ?_⟩
        · subst e
          cases h4
          rw [List.append_nil] at k
          exact k _ F H (Sub.refl F) S (.tup h1 (.cons a1 a2))
        · exact k _ _ _ (S.subT ht _) (S.newT ht _) (Rp.new_tup S ht ((RpL.cons a1 a2).append h4))
    · cases hb
  · cases hx; cases hy; cases hb
    exact .inr (.inr (.inr (.inr ⟨_, _, rfl, rfl, k _ F H (Sub.refl F) S (.int _)⟩)))
  · cases hx; cases hy; cases hb
    exact .inl ⟨_, _, rfl, rfl, k _ F H (Sub.refl F) S (.int _)⟩
  · cases hx; cases hy; cases hb
    exact .inr ⟨_, _, rfl, rfl, k _ F H (Sub.refl F) S (.int _)⟩
  · cases hx; cases hy
    split at hb
    · rename_i hl
      cases hb
      unfold mulOk at hl
      simp only [Bool.or_eq_true, Bool.and_eq_true, decide_eq_true_eq] at hl
      rcases hl with (hl | hl) | hl
      · exact .inl ⟨_, _, rfl, rfl, .inl hl, k _ F H (Sub.refl F) S (.int _)⟩
      · exact .inl ⟨_, _, rfl, rfl, .inr hl, k _ F H (Sub.refl F) S (.int _)⟩
      · exact .inr (.inl ⟨_, _, rfl, rfl, hl, k _ F H (Sub.refl F) S (.int _)⟩)
    · cases hb
  · obtain ⟨p, xs, rfl, h1, h2⟩ := hx.inv_lst
    cases hy
    split at hb
    · rename_i hl
      cases hb
      simp only [Bool.and_eq_true, decide_eq_true_eq] at hl
      refine .inr (.inr (.inl ⟨p, _, xs, rfl, rfl, S.fh _ _ h1, hl.1.1, hl.1.2, by rw [h2.length, ← line_eq]; exact hl.2, fun t ht => ?_⟩))
      exact k _ F _ (Sub.refl F) (S.new ht _) (RR.new_lst S ht (h2.rep _))
    · cases hb
  · obtain ⟨p, xs, rfl, h1, h2⟩ := hx.inv_tup
    cases hy
    split at hb
    · rename_i hl
      cases hb
      simp only [Bool.and_eq_true, decide_eq_true_eq] at hl
      refine .inr (.inr (.inr (.inl ⟨p, _, xs, rfl, rfl, SqT.sub S.fh h1, ?_, hl.1.1.2, hl.1.2, by rw [h2.length]; exact hl.2, fun t ht => ?_⟩)))
      · intro e
        have := h2.nil_iff.mp e
        rw [this] at hl
        exact absurd hl.1.1.1 (by simp)
      · exact k _ _ _ (S.subT ht _) (S.newT ht _) (Rp.new_tup S ht (h2.rep _))
    · cases hb
  · cases hx; cases hy
    split at hb
    · rename_i hl
      cases hb
      simp only [Bool.and_eq_true, decide_eq_true_eq] at hl
      exact .inr (.inr (.inr (.inr (.inl ⟨_, _, rfl, rfl, hl.1.1.1, hl.1.1.2, hl.1.2, hl.2, k _ F H (Sub.refl F) S (.str _)⟩))))
    · cases hb
  · cases hx; cases hy; cases hb
    exact .inr (.inr (.inr (.inr (.inr ⟨_, _, rfl, rfl, k _ F H (Sub.refl F) S (.int _)⟩))))
  · cases hx; cases hy
    split at hb
    · rename_i hl
      cases hb
      unfold divOk at hl
      simp only [Bool.and_eq_true, decide_eq_true_eq] at hl
      exact ⟨_, _, rfl, rfl, hl, k _ F H (Sub.refl F) S (.int _)⟩
    · cases hb
  · cases hx; cases hy
    split at hb
    · rename_i hl
      cases hb
      exact ⟨_, _, rfl, rfl, of_decide_eq_true hl, k _ F H (Sub.refl F) S (.int _)⟩
    · cases hb
  · cases hx; cases hy
    split at hb
    · rename_i hl
      cases hb
      simp only [Bool.and_eq_true, decide_eq_true_eq] at hl
      exact ⟨_, _, rfl, rfl, ⟨hl.1.1, hl.1.2, hl.2⟩, k _ F H (Sub.refl F) S (.int _)⟩
    · cases hb
  · cases hb

/-! ### comparisons -/
mutual
def toPy : D → PyData
  | .non => .none
  | .bl b => .bool b
  | .int i => .int i
  | .str x => .str x
  | .tup ds => .tuple (toPys ds)
  | .lst ds => .list (toPys ds)
  | .frz _ => .none
  | .fn _ => .none
  | .dic _ => .none
def toPys : List D → List PyData
  | [] => []
  | d :: ds => toPy d :: toPys ds
end
theorem str_of {x : Str} {l : List Nat} (h : x.cps.toList = l) : x = ⟨l.toArray⟩ := by
  cases x with
  | mk a => subst h; simp
theorem strOk_lib {x : Str} (h : strOk x = true) : PyData.strOk x = true := by
  unfold PyData.strOk
  unfold strOk at h
  rw [Array.all_eq_true] at h ⊢
  intro i hi
  have := h i hi
  simp only [decide_eq_true_eq] at this ⊢
  omega
mutual
theorem sh_dp {H : Hp} : ∀ (n : Nat) (d : D) (v : V), sh n d = true → Rp K H v d → Dp K H v (toPy d)
  | _, .non, _, _, r => by cases r; exact .non
  | _, .bl b, _, _, r => by cases r; exact .bl b
  | _, .int b, _, _, r => by cases r; exact .int b
  | _, .str b, _, _, r => by cases r; exact .str b
  | 0, .tup ds, _, h, _ => by simp [sh] at h
  | 0, .lst ds, _, h, _ => by simp [sh] at h
  | n + 1, .tup ds, _, h, r => by
    obtain ⟨a, xs, rfl, h1, h2⟩ := r.inv_tup
    exact .tup h1 (shs_dp n ds xs (by simpa [sh] using h) h2)
  | n + 1, .lst ds, _, h, r => by
    obtain ⟨a, xs, rfl, h1, h2⟩ := r.inv_lst
    exact .lst (SqL.of h1) (shs_dp n ds xs (by simpa [sh] using h) h2)
  | 0, .frz _, _, h, _ => by simp [sh] at h
  | 0, .fn _, _, h, _ => by simp [sh] at h
  | n + 1, .frz _, _, h, _ => by simp [sh] at h
  | n + 1, .fn _, _, h, _ => by simp [sh] at h
  | 0, .dic _, _, h, _ => by simp [sh] at h
  | n + 1, .dic _, _, h, _ => by simp [sh] at h
theorem shs_dp {H : Hp} : ∀ (n : Nat) (ds : List D) (vs : List V), shs n ds = true → RpL K H vs ds → DpAll K H vs (toPys ds)
  | _, [], _, _, r => by cases r; exact .nil
  | n, d :: ds, _, h, r => by
    cases r with
    | cons r1 r2 =>
      simp only [shs, Bool.and_eq_true] at h
      exact .cons (sh_dp n d _ h.1 r1) (shs_dp n ds _ h.2 r2)
end
mutual
theorem sh_lay : ∀ (n : Nat) (d : D), sh n d = true → (toPy d).canLay0 = true ∧ (toPy d).depth ≤ n
  | _, .non, _ => by simp [toPy, PyData.canLay0, PyData.depth]
  | _, .bl b, _ => by simp [toPy, PyData.canLay0, PyData.depth]
  | _, .int b, _ => by simp [toPy, PyData.canLay0, PyData.depth]
  | n, .str b, h => by
    have : strOk b = true := by cases n <;> simpa [sh] using h
    simp [toPy, PyData.canLay0, PyData.depth, strOk_lib this]
  | 0, .tup ds, h => by simp [sh] at h
  | 0, .lst ds, h => by simp [sh] at h
  | n + 1, .tup ds, h => by
    have := shs_lay n ds (by simpa [sh] using h)
    simp only [toPy, PyData.canLay0, PyData.depth]
    exact ⟨this.1, by omega⟩
  | n + 1, .lst ds, h => by
    have := shs_lay n ds (by simpa [sh] using h)
    simp only [toPy, PyData.canLay0, PyData.depth]
    exact ⟨this.1, by omega⟩
  | 0, .frz _, h => by simp [sh] at h
  | 0, .fn _, h => by simp [sh] at h
  | n + 1, .frz _, h => by simp [sh] at h
  | n + 1, .fn _, h => by simp [sh] at h
  | 0, .dic _, h => by simp [sh] at h
  | n + 1, .dic _, h => by simp [sh] at h
theorem shs_lay : ∀ (n : Nat) (ds : List D), shs n ds = true → PyData.canLayAll0 (toPys ds) = true ∧ PyData.depthAll (toPys ds) ≤ n
  | _, [], _ => by simp [toPys, PyData.canLayAll0, PyData.depthAll]
  | n, d :: ds, h => by
    simp only [shs, Bool.and_eq_true] at h
    have a := sh_lay n d h.1
    have b := shs_lay n ds h.2
    simp only [toPys, PyData.canLayAll0, PyData.depthAll, Bool.and_eq_true]
    exact ⟨⟨a.1, b.1⟩, by omega⟩
end
theorem sh_shaped {d : D} (h : sh 60 d = true) : SeqAt.shaped (toPy d) = true := by
  have := sh_lay 60 d h
  unfold SeqAt.shaped
  rw [this.1, Bool.true_and]
  exact decide_eq_true (by omega)
mutual
theorem dq_eqv : ∀ (n m : Nat) (a b : D), sh n a = true → sh m b = true → PyData.eqv (toPy a) (toPy b) = dq a b
  | n, m, .tup xs, b, h, g => by
    cases n with
    | zero => simp [sh] at h
    | succ n =>
      cases b with
      | tup ys =>
        cases m with
        | zero => simp [sh] at g
        | succ m =>
          simp only [toPy, PyData.eqv, dq]
          exact dqs_eqv n m xs ys (by simpa [sh] using h) (by simpa [sh] using g)
      | frz _ => cases m <;> simp [sh] at g
      | fn _ => cases m <;> simp [sh] at g
      | dic _ => cases m <;> simp [sh] at g
      | _ => simp [toPy, PyData.eqv, dq]
  | n, m, .lst xs, b, h, g => by
    cases n with
    | zero => simp [sh] at h
    | succ n =>
      cases b with
      | lst ys =>
        cases m with
        | zero => simp [sh] at g
        | succ m =>
          simp only [toPy, PyData.eqv, dq]
          exact dqs_eqv n m xs ys (by simpa [sh] using h) (by simpa [sh] using g)
      | frz _ => cases m <;> simp [sh] at g
      | fn _ => cases m <;> simp [sh] at g
      | dic _ => cases m <;> simp [sh] at g
      | _ => simp [toPy, PyData.eqv, dq]
  | n, m, .non, b, _, g => by cases b <;> first | (cases m <;> simp [sh] at g; done) | simp [toPy, PyData.eqv, dq]
  | n, m, .bl _, b, _, g => by cases b <;> first | (cases m <;> simp [sh] at g; done) | simp [toPy, PyData.eqv, dq]
  | n, m, .int _, b, _, g => by cases b <;> first | (cases m <;> simp [sh] at g; done) | simp [toPy, PyData.eqv, dq]
  | n, m, .str _, b, _, g => by cases b <;> first | (cases m <;> simp [sh] at g; done) | simp [toPy, PyData.eqv, dq]
  | n, m, .frz _, b, h, g => by cases n <;> simp [sh] at h
  | n, m, .fn _, b, h, g => by cases n <;> simp [sh] at h
  | n, m, .dic _, b, h, g => by cases n <;> simp [sh] at h
theorem dqs_eqv : ∀ (n m : Nat) (a b : List D), shs n a = true → shs m b = true → PyData.eqvAll (toPys a) (toPys b) = dqs a b
  | _, _, [], [], _, _ => by simp [toPys, PyData.eqvAll, dqs]
  | _, _, [], _ :: _, _, _ => by simp [toPys, PyData.eqvAll, dqs]
  | _, _, _ :: _, [], _, _ => by simp [toPys, PyData.eqvAll, dqs]
  | n, m, x :: xs, y :: ys, h, g => by
    simp only [shs, Bool.and_eq_true] at h g
    simp only [toPys, PyData.eqvAll, dqs]
    rw [dq_eqv n m x y h.1 g.1, dqs_eqv n m xs ys h.2 g.2]
end
theorem isIn_eqv : ∀ (a : D) (ds : List D), sh 60 a = true → shs 60 ds = true → ((toPys ds).any fun z => PyData.eqv z (toPy a)) = isIn a ds
  | _, [], _, _ => by simp [toPys, isIn]
  | a, d :: ds, h, g => by
    simp only [shs, Bool.and_eq_true] at g
    simp only [toPys, isIn, List.any_cons]
    rw [isIn_eqv a ds h g.2, dq_eqv 60 60 d a g.1 h]
theorem flat_of {v : V} {d : D} (r : Rp K F v d) (h : sh 0 d = true) : flatV v = true := by
  cases d <;> first | (cases r; rfl) | simp [sh] at h
theorem flats_of : ∀ {vs : List V} {ds : List D}, RpL K F vs ds → shs 0 ds = true → vs.all flatV = true
  | _, _, .nil, _ => rfl
  | _, _, .cons r t, h => by
    simp only [shs, Bool.and_eq_true] at h
    rw [List.all_cons, flat_of r h.1, flats_of t h.2]; rfl
theorem eqV_dq {v u : V} {a b : D} (r : Rp K F v a) (q : Rp K F u b) (h : sh 0 a = true) (g : sh 0 b = true) : eqV v u = dq a b := by
  cases a <;> first | (simp [sh] at h; done) | skip
  all_goals cases b <;> first | (simp [sh] at g; done) | skip
  all_goals (cases r; cases q; simp [eqV, dq])
theorem inV_isIn {v : V} {a : D} (r : Rp K F v a) (h : sh 0 a = true) : ∀ {vs : List V} {ds : List D}, RpL K F vs ds → shs 0 ds = true → inV v vs = isIn a ds
  | _, _, .nil, _ => rfl
  | _, _, .cons q t, g => by
    simp only [shs, Bool.and_eq_true] at g
    have e := inV_isIn r h t g.2
    unfold inV at e ⊢
    rw [List.any_cons, e, eqV_dq q r g.1 h]; rfl

/-! ### dicts of texts -/
abbrev dicV (kvs : List (Str × Int)) : List (Key × V) := kvs.map fun p => (Sum.inr p.1, V.int p.2)
theorem valV_dic (kvs : List (Str × Int)) (z : Str) : valV (dicV kvs) (Sum.inr z) = (look kvs z).map V.int := by
  induction kvs with
  | nil => rfl
  | cons p r ih =>
    unfold look
    by_cases e : p.1 = z
    · rw [dicV, List.map_cons, valV_pos (by rw [e]), if_pos e]; rfl
    · rw [dicV, List.map_cons, valV_neg (fun q => e (Sum.inr.inj q)), if_neg e]; exact ih
def rDIn (neg : Bool) : R2 := fun x y H Q => ∃ a o, y = .ref a ∧ DGet H a x o ∧ Q (.bl (if neg then !o.isSome else o.isSome)) H
theorem op_din {X : Cx} (hu : X.A.units + 1 < cLine) : OpR X (compareOp .In) (rDIn false) := by
  intro pins s σ H x y v u Q I rx ry h
  obtain ⟨a, o, rfl, g, q⟩ := h
  cases ry
  exact d_in hu I g rx fun s' I' => ⟨.bl _, H, I', rfl, q⟩
theorem op_dnotin {X : Cx} (hu : X.A.units + 1 < cLine) : OpR X (compareOp .NotIn) (rDIn true) := by
  intro pins s σ H x y v u Q I rx ry h
  obtain ⟨a, o, rfl, g, q⟩ := h
  cases ry
  exact d_notIn hu I g rx fun s' I' => ⟨.bl _, H, I', rfl, q⟩
def rDIx : R2 := fun x y H Q => ∃ a v, x = .ref a ∧ IsD H a ∧ DGet H a y (some v) ∧ Q v H
theorem ix_dic {X : Cx} (hu : X.A.units + 1 < cLine) : IxR X rDIx := by
  intro value slice pins s σ H x y v u Q I rx ry h hs
  obtain ⟨a, w, rfl, hd, g, q⟩ := h
  cases rx
  exact tail_any (isD_at I hd).1 PySem.F.slot_dict_getitem.lookup (d_getItem hu I g ry fun w' s' I' r => ⟨w, H, I', r, q⟩) hs

def cOf : CO → CmpOp
  | .eq => .Eq | .ne => .NotEq | .lt => .Lt | .le => .LtE | .gt => .Gt | .ge => .GtE | .is_ => .Is | .isnot => .IsNot | .in_ => .In | .notin => .NotIn
def rSign (neg : Bool) : R2 := fun x y H Q => ∃ (c : Nat) (z : Str), x = .str ⟨#[c]⟩ ∧ y = .str z ∧ Q (.bl (if neg then !decide (c ∈ z.cps.toList) else decide (c ∈ z.cps.toList))) H
def rCmp (K : PySem.W.Frag) : CO → R2
  | .eq => rEqD K
  | .ne => rNeD K
  | .lt => rI0 fun i j => .bl (decide (i < j))
  | .le => rI0 fun i j => .bl (decide (i ≤ j))
  | .gt => rI0 fun i j => .bl (decide (j < i))
  | .ge => rI0 fun i j => .bl (decide (j ≤ i))
  | .is_ => fun x y H Q => (y = .non ∧ Q (.bl (decide (x = .non))) H) ∨ rIsB x y H Q
  | .isnot => fun x y H Q => (y = .non ∧ Q (.bl (!decide (x = .non))) H) ∨ rNotB x y H Q
  | .in_ => fun x y H Q => rIn K false x y H Q ∨ (rInD K x y H Q ∨ (rSign false x y H Q ∨ rDIn false x y H Q))
  | .notin => fun x y H Q => rIn K true x y H Q ∨ (rNotInD K x y H Q ∨ (rSign true x y H Q ∨ rDIn true x y H Q))
theorem op_cmp {X : Cx} (hu : X.A.units + 66 < cLine) (o : CO) : OpR X (compareOp (cOf o)) (rCmp X.K o) := by
  cases o with
  | eq => exact op_eqD (by omega)
  | ne => exact op_neD (by omega)
  | lt => exact op_lt
  | le => exact op_le
  | gt => exact op_gt
  | ge => exact op_ge
  | is_ => exact op_isN.or op_isBl
  | isnot => exact op_notN.or op_notBl
  | in_ => exact op_in_seq.or ((op_inD (by omega)).or (op_in_sign.or (op_din (by omega))))
  | notin => exact op_notIn_seq.or ((op_notInD (by omega)).or (op_notIn_sign.or (op_dnotin (by omega))))
theorem cmp_ok {o : CO} {x y : V} {a b : D} {r : Bool} (hx : Rp K H x a) (hy : Rp K H y b) (hb : cmp2 o a b = .ok r) {Q : VK} (k : Q (.bl r) H) : rCmp K o x y H Q := by
  unfold cmp2 at hb
  split at hb
  · split at hb
    · rename_i h
      simp only [Bool.and_eq_true] at h
      cases hb
      refine ⟨_, _, sh_dp _ _ _ h.1 hx, sh_dp _ _ _ h.2 hy, sh_shaped h.1, sh_shaped h.2, ?_⟩
      rw [dq_eqv 60 60 _ _ h.1 h.2]; exact k
    · cases hb
  · split at hb
    · rename_i h
      simp only [Bool.and_eq_true] at h
      cases hb
      refine ⟨_, _, sh_dp _ _ _ h.1 hx, sh_dp _ _ _ h.2 hy, sh_shaped h.1, sh_shaped h.2, ?_⟩
      rw [dq_eqv 60 60 _ _ h.1 h.2]; exact k
    · cases hb
  · cases hx; cases hy; cases hb; exact ⟨_, _, rfl, rfl, k⟩
  · cases hx; cases hy; cases hb; exact ⟨_, _, rfl, rfl, k⟩
  · cases hx; cases hy; cases hb; exact ⟨_, _, rfl, rfl, k⟩
  · cases hx; cases hy; cases hb; exact ⟨_, _, rfl, rfl, k⟩
  · cases hy; cases hb
    refine .inl ⟨rfl, ?_⟩
    cases hx <;> exact k
  · cases hy; cases hb
    refine .inl ⟨rfl, ?_⟩
    cases hx <;> exact k
  · cases hx; cases hy; cases hb
    refine .inr ⟨_, _, rfl, rfl, ?_⟩
    rw [← Bool.beq_eq_decide_eq]; exact k
  · cases hx; cases hy; cases hb
    refine .inr ⟨_, _, rfl, rfl, ?_⟩
    rw [← Bool.beq_eq_decide_eq]; exact k
  · obtain ⟨p, xs, rfl, h1, h2⟩ := hy.inv_lst
    split at hb
    · rename_i ds h
      simp only [Bool.and_eq_true] at h
      cases hb
      have hd : sh 61 (.lst ds) = true := by simpa [sh] using h.2
      refine .inr (.inl ⟨_, toPys ds, sh_dp _ _ _ h.1 hx, sh_dp 61 _ _ hd hy, sh_shaped h.1, ?_, ?_⟩)
      · have := sh_lay 61 _ hd
        unfold SeqAt.shaped
        rw [show PyData.canLay0 (.list (toPys ds)) = true from this.1, Bool.true_and]
        have h2 : PyData.depth (.list (toPys ds)) ≤ 61 := this.2
        exact decide_eq_true (by omega)
      · rw [isIn_eqv _ _ h.1 h.2]; exact k
    · cases hb
  · obtain ⟨p, xs, rfl, h1, h2⟩ := hy.inv_lst
    split at hb
    · rename_i ds h
      simp only [Bool.and_eq_true] at h
      cases hb
      have hd : sh 61 (.lst ds) = true := by simpa [sh] using h.2
      refine .inr (.inl ⟨_, toPys ds, sh_dp _ _ _ h.1 hx, sh_dp 61 _ _ hd hy, sh_shaped h.1, ?_, ?_⟩)
      · have := sh_lay 61 _ hd
        unfold SeqAt.shaped
        rw [show PyData.canLay0 (.list (toPys ds)) = true from this.1, Bool.true_and]
        have h2 : PyData.depth (.list (toPys ds)) ≤ 61 := this.2
        exact decide_eq_true (by omega)
      · rw [isIn_eqv _ _ h.1 h.2]; exact k
    · cases hb
  · obtain ⟨p, xs, rfl, h1, h2⟩ := hy.inv_tup
    split at hb
    · rename_i h
      simp only [Bool.and_eq_true] at h
      cases hb
      refine .inl ⟨p, xs, rfl, .inr h1, flat_of hx h.1, flats_of h2 h.2, ?_⟩
      rw [inV_isIn hx h.1 h2 h.2]; exact k
    · cases hb
  · obtain ⟨p, xs, rfl, h1, h2⟩ := hy.inv_tup
    split at hb
    · rename_i h
      simp only [Bool.and_eq_true] at h
      cases hb
      refine .inl ⟨p, xs, rfl, .inr h1, flat_of hx h.1, flats_of h2 h.2, ?_⟩
      rw [inV_isIn hx h.1 h2 h.2]; exact k
    · cases hb
  · cases hx
    cases hy with
    | dic h1 =>
      cases hb
      refine .inr (.inr (.inr ⟨_, _, rfl, DGet.k (k := Sum.inr _) h1, ?_⟩))
      rw [valV_dic, Option.isSome_map]; exact k
  · cases hx
    cases hy with
    | dic h1 =>
      cases hb
      refine .inr (.inr (.inr ⟨_, _, rfl, DGet.k (k := Sum.inr _) h1, ?_⟩))
      rw [valV_dic, Option.isSome_map]; exact k
  · cases hx; cases hy
    unfold signIn at hb
    split at hb
    · rename_i c hc
      cases hb
      exact .inr (.inr (.inl ⟨_, _, congrArg V.str (str_of hc), rfl, k⟩))
    · cases hb
  · cases hx; cases hy
    unfold signIn at hb
    split at hb
    · rename_i c hc
      cases hb
      exact .inr (.inr (.inl ⟨_, _, congrArg V.str (str_of hc), rfl, k⟩))
    · cases hb
  · cases hb
end
end MP

end
section
set_option linter.all false
set_option Elab.async false
set_option maxRecDepth 100000
set_option maxHeartbeats 4000000
/-! One lemma a construct. -/
namespace MP
open PySem PySem.Spec PyProof.Rows L2

section
variable {X : Cx} {cn : Program × World × Oa} {W : WX} {e a b c : Expr} {pos : Pos} {f f' f'' : En → Out (R × En)} {C : CallF}

theorem s_con {d : D} {v : V} (h : PE X e (tC v)) (hv : ∀ F : Hp, Rp X.K F v d) : PE X e (tE X.K cn W fun env => .ok (.v d, env)) :=
  PE.weak h fun σ H Q ⟨Z, F, ρ, S, q⟩ => q v F H (Sub.refl F) S (hv F)

theorem rd_ok {Z F H : Hp} {σ : L2.St} {ρ ρ' : En} {i : Nat} {r : R} (S : Sok X.K cn Z F H σ ρ) (h : rd ρ i = .ok (r, ρ')) : ∃ v F', σ[i]? = some (some v) ∧ Sub F F' ∧ Sok X.K cn Z F' H σ ρ' ∧ RR X.K Z F' H σ ρ' v r := by
  unfold rd get at h
  have hg : ρ.getD i .un = (ρ[i]?).getD .un := by simp [List.getD]
  rw [hg] at h
  cases e : ρ[i]? with
  | none => rw [e] at h; simp at h
  | some s =>
    rw [e] at h
    cases s with
    | un => simp at h
    | fz d =>
      simp at h
      obtain ⟨rfl, rfl⟩ := h
      obtain ⟨v, e1, r1⟩ := S.fz i d e
      exact ⟨v, F, e1, Sub.refl F, S, r1⟩
    | od _ => simp at h
    | ow ds =>
      simp at h
      obtain ⟨rfl, rfl⟩ := h
      obtain ⟨p, xs, e1, h1, h2, h3, h4⟩ := S.ow i ds e
      have hn : Sub F (L2.upd F p (.lst xs)) := Sub.new h3 _
      have own : OwnAt σ ρ i p := ⟨e1, .inl ⟨ds, e⟩⟩
      refine ⟨.ref p, L2.upd F p (.lst xs), e1, hn, ?_, .lst upd_same (h2.sub hn)⟩
      have key : ∀ (j : Nat) (s : Sl), (ρ.set i (.fz (.lst ds)))[j]? = some s → (j = i ∧ s = .fz (.lst ds)) ∨ (j ≠ i ∧ ρ[j]? = some s) := fun j s hj => by
        by_cases q : j = i
        · subst q
          obtain ⟨hl, _⟩ := List.getElem?_eq_some_iff.mp e
          rw [List.getElem?_set_self hl] at hj
          exact .inl ⟨rfl, (Option.some.inj hj).symm⟩
        · rw [List.getElem?_set_ne (Ne.symm q)] at hj
          exact .inr ⟨q, hj⟩
      have own' : ∀ {j : Nat} {q : Addr}, OwnAt σ (ρ.set i (.fz (.lst ds))) j q → j ≠ i ∧ OwnAt σ ρ j q := fun {j q} ho => by
        obtain ⟨g1, ⟨es, g2⟩ | ⟨ks, g2⟩⟩ := ho
        · rcases key j _ g2 with ⟨_, z⟩ | ⟨z1, z2⟩
          · cases z
          · exact ⟨z1, g1, .inl ⟨es, z2⟩⟩
        · rcases key j _ g2 with ⟨_, z⟩ | ⟨z1, z2⟩
          · cases z
          · exact ⟨z1, g1, .inr ⟨ks, z2⟩⟩
      exact {
        tb := fun t ht => let ⟨x, y, z⟩ := S.tb t ht; ⟨x, by rw [upd_ne (S.not_tab h1 (fun _ z => by cases z) t ht)]; exact y, z⟩
        fh := S.fh.updL h1
        zh := S.zh
        zf := fun q hq => by rw [upd_ne (fun (z : q = p) => hq (by rw [z]; exact h4))]; exact S.zf q hq
        zt := S.zt
        len := by rw [List.length_set]; exact S.len
        fz := fun j d hj => by
          rcases key j _ hj with ⟨z1, z2⟩ | ⟨z1, z2⟩
          · cases z2; subst z1; exact ⟨_, e1, .lst upd_same (h2.sub hn)⟩
          · obtain ⟨v, g1, g2⟩ := S.fz j d z2; exact ⟨v, g1, g2.sub hn⟩
        ow := fun j es hj => by
          rcases key j _ hj with ⟨z1, z2⟩ | ⟨z1, z2⟩
          · cases z2
          · obtain ⟨q, ys, g1, g2, g3, g4, g5⟩ := S.ow j es z2
            refine ⟨q, ys, g1, g2, g3.sub hn, ?_, g5⟩
            rw [upd_ne (fun (z : q = p) => z1 (S.dj j i p ⟨by rw [g1, z], .inl ⟨_, z2⟩⟩ own))]; exact g4
        od := fun j es hj => by
          rcases key j _ hj with ⟨z1, z2⟩ | ⟨z1, z2⟩
          · cases z2
          · obtain ⟨q, ys, g1, g2, g3, g4, g5⟩ := S.od j es z2
            refine ⟨q, ys, g1, g2, g3.sub hn, ?_, g5⟩
            rw [upd_ne (fun (z : q = p) => z1 (S.dj j i p ⟨by rw [g1, z], .inr ⟨_, z2⟩⟩ own))]; exact g4
        dj := fun j l q hj hl => S.dj j l q (own' hj).2 (own' hl).2
        p0 := S.p0 }
theorem s_var {i : Nat} (h : PE X e (tVar i)) : PE X e (tE X.K cn W fun env => rd env i) :=
  PE.weak h fun σ H Q ⟨Z, F, ρ, S, q⟩ => by
    dsimp only at q
    cases e : rd ρ i with
    | ok p =>
      obtain ⟨r, ρ'⟩ := p
      rw [e] at q
      obtain ⟨v, F', h1, h2, h3, h4⟩ := rd_ok S e
      exact ⟨v, h1, q v F' H h2 h3 h4⟩
    | err _ =>
      exfalso
      unfold rd at e
      split at e <;> cases e
    | bad => rw [e] at q; exact q.elim
/-- data whose own object stands in H, all else in F -/
def Rp1 (K : PySem.W.Frag) (F H : Hp) (v : V) : D → Prop
  | .tup ds => ∃ a xs, v = .ref a ∧ SqT K H a xs ∧ RpL K F xs ds
  | .lst ds => ∃ a xs, v = .ref a ∧ H a = some (.lst xs) ∧ RpL K F xs ds
  | d => Rp K F v d
theorem Rp.one {F H : Hp} {v : V} {d : D} (s : Sub F H) (r : Rp X.K F v d) : Rp1 X.K F H v d := by
  cases d with
  | tup ds => obtain ⟨a, xs, rfl, h1, h2⟩ := r.inv_tup; exact ⟨a, xs, rfl, SqT.sub s h1, h2⟩
  | lst ds => obtain ⟨a, xs, rfl, h1, h2⟩ := r.inv_lst; exact ⟨a, xs, rfl, s _ _ h1, h2⟩
  | _ => exact r
/-- a slot looked at -/
theorem pk_ok {Z F H : Hp} {σ : L2.St} {ρ : En} {i : Nat} {d : D} (S : Sok X.K cn Z F H σ ρ) (h : pk ρ i = .ok d) : ∃ v, σ[i]? = some (some v) ∧ Rp1 X.K F H v d := by
  unfold pk get at h
  have hg : ρ.getD i .un = (ρ[i]?).getD .un := by simp [List.getD]
  rw [hg] at h
  cases e : ρ[i]? with
  | none => rw [e] at h; simp at h
  | some s =>
    rw [e] at h
    cases s with
    | un => simp at h
    | od _ => simp at h
    | fz d =>
      simp at h; subst h
      obtain ⟨v, e1, r1⟩ := S.fz i d e
      exact ⟨v, e1, r1.one S.fh⟩
    | ow ds =>
      simp at h; subst h
      obtain ⟨p, xs, e1, h1, h2, h3, h4⟩ := S.ow i ds e
      exact ⟨_, e1, p, xs, rfl, h1, h2⟩
theorem pk_noerr {ρ : En} {i : Nat} {e : Ex} : pk ρ i ≠ .err e := by unfold pk; split <;> intro h <;> cases h

theorem s_bin {o : Op2} (ha : PE X a (tE X.K cn W f)) (hb : PE X b (tE X.K cn W f')) :
    PE X (.BinOp a (opOf o) b pos) (tE X.K cn W fun env => (f env).bind fun (x, env) => (f' env).bind fun (y, env) => (bin2 o x.d y.d).bind fun r => .ok (r, env)) :=
  PE.weak (pe_op (op_bin o) ha hb) fun σ H Q ⟨Z, F, ρ, S, q⟩ =>
    tE.seq S q fun r ρ1 v F1 H1 s1 S1 rx q1 => tE.seq S1 q1 fun r2 ρ2 u F2 H2 s2 S2 ry q2 => by
      obtain ⟨r3, h3, q3⟩ := Post.bind0 q2 (by intro e h; revert h; unfold bin2; split <;> (try split) <;> intro h <;> cases h)
      exact bin_ok S2 (rx.sub s2) ry h3 fun v3 F3 H3 s3 S3 r3 => q3 v3 F3 H3 ((s1.trans s2).trans s3) S3 r3
theorem cmp_noerr {o : CO} {a b : D} {e : Ex} : cmp2 o a b ≠ .err e := by
  unfold cmp2
  split <;> (try split) <;> (try unfold signIn) <;> (try split) <;> intro h <;> simp [Out.bind] at h
theorem s_cmp {o : CO} (hu : X.A.units + 66 < cLine) (ha : PE X a (tE X.K cn W f)) (hb : PE X b (tE X.K cn W f')) (hm : behindInMarks (cOf o) b = false) :
    PE X (.Compare a [cOf o] [b] pos) (tE X.K cn W fun env => (f env).bind fun (x, env) => (f' env).bind fun (y, env) => (cmp2 o x.d y.d).bind fun r => .ok (.v (.bl r), env)) :=
  PE.weak (pe_cmpR (op_cmp hu o) ha hb hm) fun σ H Q ⟨Z, F, ρ, S, q⟩ =>
    tE.seq S q fun r ρ1 v F1 H1 s1 S1 rx q1 => tE.seq S1 q1 fun r2 ρ2 u F2 H2 s2 S2 ry q2 => by
      obtain ⟨r3, h3, q3⟩ := Post.bind0 q2 (fun e => cmp_noerr)
      exact cmp_ok (rx.sub (s2.trans S2.fh)) (ry.sub S2.fh) h3 (q3 _ F2 H2 (s1.trans s2) S2 (.bl r3))
/-- a comparison as a test -/
theorem s_cmpT {o : CO} (hu : X.A.units + 66 < cLine) (ha : PE X a (tE X.K cn W f)) (hb : PE X b (tE X.K cn W f')) (hm : behindInMarks (cOf o) b = false) :
    PT X (.Compare a [cOf o] [b] pos) (tT X.K cn W fun env => ((f env).bind fun (x, env) => (f' env).bind fun (y, env) => (cmp2 o x.d y.d).bind fun r => .ok (R.v (.bl r), env)).bind fun (x, env) => (truth x.d).bind fun b => .ok (b, env)) :=
  PT.weak (pt_cmpR (op_cmp hu o) ha hb hm) fun σ H Q ⟨Z, F, ρ, S, q⟩ => by
    have q' := Post.bind q
    refine tE.seq S q' fun r ρ1 v F1 H1 s1 S1 rx q1 => tE.seq S1 q1 fun r2 ρ2 u F2 H2 s2 S2 ry q2 => ?_
    obtain ⟨r3, h3, q3⟩ := Post.bind0 q2 (fun e => cmp_noerr)
    exact cmp_ok (rx.sub (s2.trans S2.fh)) (ry.sub S2.fh) h3 ⟨r3, rfl, q3 F2 H2 (s1.trans s2) S2⟩
theorem s_chain {o o' : CO} (hu : X.A.units + 66 < cLine) (ha : PE X a (tE X.K cn W f)) (hb : PE X b (tE X.K cn W f')) (hc : PE X c (tE X.K cn W f'')) (hm : lastMarks [cOf o, cOf o'] [b, c] = false) :
    PE X (.Compare a [cOf o, cOf o'] [b, c] pos) (tE X.K cn W fun env => (f env).bind fun (x, env) => (f' env).bind fun (y, env) => (cmp2 o x.d y.d).bind fun r =>
      if r then (f'' env).bind fun (z, env) => (cmp2 o' y.d z.d).bind fun r => .ok (.v (.bl r), env) else .ok (.v (.bl false), env)) :=
  PE.weak (pe_chain (op_cmp hu o) (op_cmp hu o') ha hb hc hm) fun σ H Q ⟨Z, F, ρ, S, q⟩ =>
    tE.seq S q fun r ρ1 v F1 H1 s1 S1 rx q1 => tE.seq S1 q1 fun r2 ρ2 u F2 H2 s2 S2 ry q2 => by
      obtain ⟨r3, h3, q3⟩ := Post.bind0 q2 (fun e => cmp_noerr)
      refine cmp_ok (rx.sub (s2.trans S2.fh)) (ry.sub S2.fh) h3 ⟨r3, rfl, ?_⟩
      cases r3 with
      | false => exact q3 _ F2 H2 (s1.trans s2) S2 (.bl false)
      | true =>
        refine tE.seq S2 q3 fun r4 ρ4 u4 F4 H4 s4 S4 rz q4 => ?_
        obtain ⟨r5, h5, q5⟩ := Post.bind0 q4 (fun e => cmp_noerr)
        exact cmp_ok (ry.sub (s4.trans S4.fh)) (rz.sub S4.fh) h5 (q5 _ F4 H4 ((s1.trans s2).trans s4) S4 (.bl r5))
theorem s_chainT {o o' : CO} (hu : X.A.units + 66 < cLine) (ha : PE X a (tE X.K cn W f)) (hb : PE X b (tE X.K cn W f')) (hc : PE X c (tE X.K cn W f'')) (hm : lastMarks [cOf o, cOf o'] [b, c] = false) :
    PT X (.Compare a [cOf o, cOf o'] [b, c] pos) (tT X.K cn W fun env => ((f env).bind fun (x, env) => (f' env).bind fun (y, env) => (cmp2 o x.d y.d).bind fun r =>
      if r then (f'' env).bind fun (z, env) => (cmp2 o' y.d z.d).bind fun r => .ok (R.v (.bl r), env) else .ok (R.v (.bl false), env)).bind fun (x, env) => (truth x.d).bind fun b => .ok (b, env)) :=
  PT.weak (pt_chain (op_cmp hu o) (op_cmp hu o') ha hb hc hm) fun σ H Q ⟨Z, F, ρ, S, q⟩ => by
    have q' := Post.bind q
    refine tE.seq S q' fun r ρ1 v F1 H1 s1 S1 rx q1 => tE.seq S1 q1 fun r2 ρ2 u F2 H2 s2 S2 ry q2 => ?_
    obtain ⟨r3, h3, q3⟩ := Post.bind0 q2 (fun e => cmp_noerr)
    refine cmp_ok (rx.sub (s2.trans S2.fh)) (ry.sub S2.fh) h3 ⟨r3, rfl, ?_⟩
    cases r3 with
    | false => exact ⟨false, rfl, q3 F2 H2 (s1.trans s2) S2⟩
    | true =>
      refine tE.seq S2 q3 fun r4 ρ4 u4 F4 H4 s4 S4 rz q4 => ?_
      obtain ⟨r5, h5, q5⟩ := Post.bind0 q4 (fun e => cmp_noerr)
      exact cmp_ok (ry.sub (s4.trans S4.fh)) (rz.sub S4.fh) h5 ⟨r5, rfl, q5 F4 H4 ((s1.trans s2).trans s4) S4⟩
theorem s_neg (ha : PE X a (tE X.K cn W f)) : PE X (.UnaryOp .USub a pos) (tE X.K cn W fun env => (f env).bind fun (r, env) => match r.d with | .int i => .ok (.v (.int (-i)), env) | _ => .bad) :=
  PE.weak (pe_un un_neg ha) fun σ H Q ⟨Z, F, ρ, S, q⟩ =>
    tE.seq S q fun r ρ1 v F1 H1 s1 S1 rx q1 => by
      dsimp only at q1
      generalize r.d = dd at rx q1
      cases dd <;> first | exact q1.elim | skip
      cases rx
      exact ⟨_, rfl, q1 _ F1 H1 s1 S1 (.int _)⟩

/-! ### truth -/
theorem truth_ok {F H : Hp} {v : V} {d : D} {k : Bool} (s : Sub F H) (r : Rp X.K F v d) (h : truth d = .ok k) : TruV X.K v H k := by
  unfold truth at h
  split at h
  · cases r; cases h; rfl
  · cases r; cases h; rfl
  · cases r; cases h; rfl
  · cases r
    split at h
    · rename_i x hl
      cases h
      refine ⟨by rw [← line_eq]; exact hl, ?_⟩
      show (x.cps.size != 0) = ((x.cps.size : Int) != 0)
      by_cases q : x.cps.size = 0
      · simp [q]
      · rw [bne_iff_ne.mpr q, bne_iff_ne.mpr (by omega)]
    · cases h
  · obtain ⟨p, xs, rfl, h1, h2⟩ := r.inv_tup
    cases h
    refine .inr (.inl ⟨xs, SqT.sub s h1, ?_⟩)
    cases h2 <;> rfl
  · obtain ⟨p, xs, rfl, h1, h2⟩ := r.inv_lst
    cases h
    refine .inl ⟨xs, SqL.of (s _ _ h1), ?_⟩
    cases h2 <;> rfl
  · cases h
theorem truth_noerr {d : D} {e : Ex} : truth d ≠ .err e := by unfold truth; split <;> (try split) <;> intro h <;> cases h
theorem s_tru (ha : PE X a (tE X.K cn W f)) (he : ∀ whole, isTrue a X.env whole = (do let v ← whole; standAt a.pos; holding [v] (truthy v))) :
    PT X a (tT X.K cn W fun env => (f env).bind fun (x, env) => (truth x.d).bind fun b => .ok (b, env)) :=
  PT.weak (pt_truth ha he) fun σ H Q ⟨Z, F, ρ, S, q⟩ =>
    tE.seq S q fun r ρ1 v F1 H1 s1 S1 rx q1 => by
      obtain ⟨k, h3, q3⟩ := Post.bind0 q1 (fun e => truth_noerr)
      exact ⟨k, truth_ok S1.fh rx h3, q3 F1 H1 s1 S1⟩
variable {g g' : En → Out (Bool × En)} {rest : List Expr}
theorem s_notT (ha : PT X a (tT X.K cn W g)) : PT X (.UnaryOp .Not a pos) (tT X.K cn W fun env => (g env).bind fun (x, env) => .ok (!x, env)) :=
  PT.weak (pt_not ha) fun σ H Q ⟨Z, F, ρ, S, q⟩ => tT.seq S q fun b ρ1 F1 H1 s1 S1 q1 => q1 F1 H1 s1 S1
theorem s_not (ha : PE X a (tE X.K cn W f)) : PE X (.UnaryOp .Not a pos) (tE X.K cn W fun env => (f env).bind fun (x, env) => (truth x.d).bind fun b => .ok (.v (.bl (!b)), env)) :=
  PE.weak (pe_notT ha) fun σ H Q ⟨Z, F, ρ, S, q⟩ =>
    tE.seq S q fun r ρ1 v F1 H1 s1 S1 rx q1 => by
      obtain ⟨k, h3, q3⟩ := Post.bind0 q1 (fun e => truth_noerr)
      exact ⟨k, truth_ok S1.fh rx h3, q3 _ F1 H1 s1 S1 (.bl _)⟩
theorem s_andT (ha : PT X a (tT X.K cn W g)) (hb : PW X (.BoolOp .And (b :: rest) pos) (tT X.K cn W g')) : PW X (.BoolOp .And (a :: b :: rest) pos) (tT X.K cn W fun env => (g env).bind fun (x, env) => if x then g' env else .ok (false, env)) := by
  refine ⟨fun wh pins s σ H Q I h => (pw_and ha hb).run wh pins s σ H Q I ?_⟩
  obtain ⟨Z, F, ρ, S, q⟩ := h
  refine tT.seq S q fun x ρ1 F1 H1 s1 S1 q1 => ?_
  cases x with
  | true => exact ⟨Z, F1, ρ1, S1, q1.imp (fun b ρ2 h F2 H2 s2 S2 => h F2 H2 (s1.trans s2) S2) fun _ h => h⟩
  | false => exact q1 F1 H1 s1 S1
theorem s_orT (ha : PT X a (tT X.K cn W g)) (hb : PW X (.BoolOp .Or (b :: rest) pos) (tT X.K cn W g')) : PW X (.BoolOp .Or (a :: b :: rest) pos) (tT X.K cn W fun env => (g env).bind fun (x, env) => if x then .ok (true, env) else g' env) := by
  refine ⟨fun wh pins s σ H Q I h => (pw_or ha hb).run wh pins s σ H Q I ?_⟩
  obtain ⟨Z, F, ρ, S, q⟩ := h
  refine tT.seq S q fun x ρ1 F1 H1 s1 S1 q1 => ?_
  cases x with
  | false => exact ⟨Z, F1, ρ1, S1, q1.imp (fun b ρ2 h F2 H2 s2 S2 => h F2 H2 (s1.trans s2) S2) fun _ h => h⟩
  | true => exact q1 F1 H1 s1 S1
/-- go on from a later state -/
theorem tE.later {Z F F1 H1 : Hp} {σ : L2.St} {ρ1 : En} {Q : VK} {P : R → En → Prop} (s1 : Sub F F1) (S1 : Sok X.K cn Z F1 H1 σ ρ1)
    (q : Post (f ρ1) (fun r ρ' => ∀ v F' H', Sub F F' → Sok X.K cn Z F' H' σ ρ' → RR X.K Z F' H' σ ρ' v r → Q v H') (EE X.K cn Z F1 W σ)) : tE X.K cn W f σ H1 Q :=
  ⟨Z, F1, ρ1, S1, q.imp (fun b ρ2 h v F2 H2 s2 S2 r2 => h v F2 H2 (s1.trans s2) S2 r2) fun _ h => h⟩
theorem s_and (ha : PE X a (tE X.K cn W f)) (hb : PE X (.BoolOp .And (b :: rest) pos) (tE X.K cn W f')) :
    PE X (.BoolOp .And (a :: b :: rest) pos) (tE X.K cn W fun env => (f env).bind fun (x, env) => match x.d with | .bl true => f' env | .bl false => .ok (.v (.bl false), env) | _ => .bad) :=
  PE.weak (pe_and ha hb) fun σ H Q ⟨Z, F, ρ, S, q⟩ =>
    tE.seq S q fun r ρ1 v F1 H1 s1 S1 rx q1 => by
      dsimp only at q1
      generalize r.d = dd at rx q1
      cases dd <;> first | exact q1.elim | skip
      rename_i k
      cases rx
      refine ⟨k, rfl, ?_⟩
      cases k with
      | true => exact tE.later (P := fun _ _ => True) s1 S1 q1
      | false => exact q1 _ F1 H1 s1 S1 (.bl _)
theorem s_or (ha : PE X a (tE X.K cn W f)) (hb : PE X (.BoolOp .Or (b :: rest) pos) (tE X.K cn W f')) :
    PE X (.BoolOp .Or (a :: b :: rest) pos) (tE X.K cn W fun env => (f env).bind fun (x, env) => match x.d with | .bl false => f' env | .bl true => .ok (.v (.bl true), env) | _ => .bad) :=
  PE.weak (pe_or ha hb) fun σ H Q ⟨Z, F, ρ, S, q⟩ =>
    tE.seq S q fun r ρ1 v F1 H1 s1 S1 rx q1 => by
      dsimp only at q1
      generalize r.d = dd at rx q1
      cases dd <;> first | exact q1.elim | skip
      rename_i k
      cases rx
      refine ⟨k, rfl, ?_⟩
      cases k with
      | false => exact tE.later (P := fun _ _ => True) s1 S1 q1
      | true => exact q1 _ F1 H1 s1 S1 (.bl _)
theorem s_ife (hc : PT X c (tT X.K cn W g)) (ha : PE X a (tE X.K cn W f)) (hb : PE X b (tE X.K cn W f')) :
    PE X (.IfExp c a b pos) (tE X.K cn W fun env => (g env).bind fun (k, env) => if k then f env else f' env) :=
  PE.weak (pe_ifExp hc ha hb) fun σ H Q ⟨Z, F, ρ, S, q⟩ =>
    tT.seq S q fun k ρ1 F1 H1 s1 S1 q1 => by
      cases k with
      | true => exact tE.later (P := fun _ _ => True) s1 S1 q1
      | false => exact tE.later (P := fun _ _ => True) s1 S1 q1

/-! ### lists of expressions, displays -/
variable {h h' : En → Out (List D × En)} {es : List Expr}
theorem s_nil : PA X [] (tA X.K cn W fun env => .ok ([], env)) :=
  PA.weak pa_nil fun σ H Q ⟨Z, F, ρ, S, q⟩ => q [] F H (Sub.refl F) S .nil
theorem s_cons (ha : PE X e (tE X.K cn W f)) (ht : PA X es (tA X.K cn W h)) (hs : starEach (e :: es) X.env = (false, eval e X.env) :: starEach es X.env) :
    PA X (e :: es) (tA X.K cn W fun env => (f env).bind fun (x, env) => (h env).bind fun (ds, env) => .ok (x.d :: ds, env)) :=
  PA.weak (pa_cons ha ht hs) fun σ H Q ⟨Z, F, ρ, S, q⟩ =>
    tE.seq S q fun r ρ1 v F1 H1 s1 S1 rx q1 => tA.seq S1 q1 fun ds ρ2 vs F2 H2 s2 S2 rs q2 => q2 (v :: vs) F2 H2 (s1.trans s2) S2 (.cons (rx.sub s2) rs)
theorem s_tup {k : Nat} (hl : es.length ≤ 1000) (ha : PA X es (tA X.K cn W h)) (hlen : ∀ ρ ds ρ', h ρ = .ok (ds, ρ') → ds.length = es.length) :
    PE X (.Tuple es k pos) (tE X.K cn W fun env => (h env).bind fun (ds, env) => .ok (.v (.tup ds), env)) :=
  PE.weak (pe_tup ha) fun σ H Q ⟨Z, F, ρ, S, q⟩ => by
    have hl' : ∀ ds ρ1, h ρ = .ok (ds, ρ1) → ds.length ≤ 1000 := fun ds ρ1 e => by rw [hlen _ _ _ e]; exact hl
    refine ⟨Z, F, ρ, S, ?_⟩
    dsimp only at q
    cases e : h ρ with
    | bad => rw [e] at q; exact q
    | err x => rw [e] at q; exact q
    | ok p =>
      obtain ⟨ds, ρ1⟩ := p
      rw [e] at q
      intro vs F1 H1 s1 S1 rs
      refine ⟨by rw [rs.length]; exact Nat.le_trans (hl' _ _ e) (by decide), fun p hp => ?_⟩
      exact q _ _ _ (s1.trans (S1.subT hp _)) (S1.newT hp _) (Rp.new_tup S1 hp rs)
theorem s_lst (hl : es.length ≤ 1000) (ha : PA X es (tA X.K cn W h)) (hlen : ∀ ρ ds ρ', h ρ = .ok (ds, ρ') → ds.length = es.length) :
    PE X (.List es pos) (tE X.K cn W fun env => (h env).bind fun (ds, env) => .ok (.o ds, env)) :=
  PE.weak (pe_lst ha) fun σ H Q ⟨Z, F, ρ, S, q⟩ => by
    have hl' : ∀ ds ρ1, h ρ = .ok (ds, ρ1) → ds.length ≤ 1000 := fun ds ρ1 e => by rw [hlen _ _ _ e]; exact hl
    refine ⟨Z, F, ρ, S, ?_⟩
    dsimp only at q
    cases e : h ρ with
    | bad => rw [e] at q; exact q
    | err x => rw [e] at q; exact q
    | ok p =>
      obtain ⟨ds, ρ1⟩ := p
      rw [e] at q
      intro vs F1 H1 s1 S1 rs
      refine ⟨by rw [rs.length]; exact Nat.le_trans (hl' _ _ e) (by decide), fun p hp => ?_⟩
      exact q _ F1 _ s1 (S1.new hp _) (RR.new_lst S1 hp rs)

/-! ### subscripts -/
theorem place_ix (n : Nat) (i : Int) : ixN n i = place n i := rfl
theorem at_atI {α : Type} (xs : List α) (i : Int) : atI xs i = at_ xs i := rfl
theorem at_map {α β : Type} (f : α → β) (xs : List α) (i : Int) : at_ (xs.map f) i = (at_ xs i).map f := by
  unfold at_
  rw [List.length_map]
  cases place xs.length i with
  | none => rfl
  | some j => simp
theorem RpL.atI {F : Hp} {xs : List V} {ds : List D} {i : Int} {d : D} (r : RpL X.K F xs ds) (h : at_ ds i = some d) : ∃ v, L2.atI xs i = some v ∧ Rp X.K F v d := by
  unfold at_ at h
  rw [at_atI]
  unfold at_
  rw [r.length]
  cases e : place ds.length i with
  | none => rw [e] at h; simp at h
  | some j =>
    rw [e] at h
    obtain ⟨v, h1, h2⟩ := r.get (i := j) (by simpa using h)
    exact ⟨v, by simpa using h1, h2⟩
theorem dic_get {H : Hp} {a : Addr} {kvs : List (Str × Int)} (h : H a = some (.dK (dicV kvs))) (z : Str) : DGet H a (.str z) ((look kvs z).map V.int) := by
  have q := DGet.k (k := Sum.inr z) h
  rw [valV_dic] at q
  exact q
theorem item_ok {F H : Hp} {x y : V} {a b d : D} (s : Sub F H) (hx : Rp1 X.K F H x a) (hy : Rp X.K F y b) (h : item a b = .ok d) {Q : VK} (k : ∀ v, Rp X.K F v d → Q v H) : rIx X.K x y H Q ∨ rDIx x y H Q := by
  unfold item at h
  split at h
  · obtain ⟨p, xs, rfl, h1, h2⟩ := hx
    cases hy
    split at h <;> cases h
    rename_i e
    obtain ⟨v, g1, g2⟩ := h2.atI e
    exact .inl (.inr (.inl ⟨p, xs, _, v, rfl, rfl, h1, g1, k v g2⟩))
  · obtain ⟨p, xs, rfl, h1, h2⟩ := hx
    cases hy
    split at h <;> cases h
    rename_i e
    obtain ⟨v, g1, g2⟩ := h2.atI e
    exact .inl (.inl ⟨p, xs, _, v, rfl, rfl, SqL.of h1, g1, k v g2⟩)
  · cases (show Rp X.K F x _ from hx) with
    | frz h1 =>
      cases hy
      split at h <;> cases h
      rename_i e
      exact .inl (.inl ⟨_, _, _, .int _, rfl, rfl, SqL.sub s h1, by rw [at_atI, at_map, e]; rfl, k _ (.int _)⟩)
  · cases (show Rp X.K F x _ from hx) with
    | dic h1 =>
      cases hy
      split at h <;> cases h
      rename_i e
      exact .inr ⟨_, .int _, rfl, .inl ⟨_, .inl (s _ _ h1)⟩, by have q := dic_get (s _ _ h1) ‹Str›; rw [e] at q; exact q, k _ (.int _)⟩
  · cases (show Rp X.K F x _ from hx)
    cases hy
    split at h
    · rename_i hl
      split at h <;> cases h
      rename_i e
      exact .inl (.inr (.inr ⟨_, _, _, rfl, rfl, by rw [← line_eq]; exact hl, e, k _ (.str _)⟩))
    · cases h
  · cases h
theorem item_noerr {a b : D} {e : Ex} : item a b ≠ .err e := by unfold item; split <;> (try split) <;> (try split) <;> intro h <;> cases h
end
end MP

end
section
set_option linter.all false
set_option Elab.async false
set_option maxRecDepth 100000
set_option maxHeartbeats 4000000
/-! Subscripts, slices, calls, built-ins. -/
namespace MP
open PySem PySem.Spec PyProof.Rows L2

section
variable {X : Cx} {cn : Program × World × Oa} {W : WX} {e a b c : Expr} {pos p : Pos} {f f' f'' : En → Out (R × En)} {C : CallF} {es : List Expr} {h : En → Out (List D × En)}

theorem get_at (ρ : En) (i : Nat) : get ρ i = (ρ[i]?).getD .un := by unfold get; simp [List.getD]
theorem get_some {ρ : En} {i : Nat} {s : Sl} (h : get ρ i = s) (hs : s ≠ .un) : ρ[i]? = some s := by
  rw [get_at] at h
  cases e : ρ[i]? with
  | none => rw [e] at h; exact absurd h.symm hs
  | some q => rw [e] at h; exact congrArg some h
theorem bound_ok {Z F H : Hp} {σ : L2.St} {ρ : En} {i : Nat} (S : Sok X.K cn Z F H σ ρ) (h : bound ρ i = true) : ∃ v, σ[i]? = some (some v) := by
  unfold bound at h
  split at h
  · rename_i d e
    obtain ⟨v, e1, _⟩ := S.fz i d (get_some e (by intro h; cases h)); exact ⟨v, e1⟩
  · rename_i ds e
    obtain ⟨q, xs, e1, _⟩ := S.ow i ds (get_some e (by intro h; cases h)); exact ⟨_, e1⟩
  · cases h
theorem s_ix (hu : X.A.units + 1 < cLine) (ha : PE X a (tE X.K cn W f)) (hb : PE X b (tE X.K cn W f')) (hs : PlainIx b) :
    PE X (.Subscript a b pos) (tE X.K cn W fun env => (f env).bind fun (x, env) => (f' env).bind fun (y, env) => (item x.d y.d).bind fun d => .ok (.v d, env)) :=
  PE.weak (pe_ix (ix_seq.or (ix_dic hu)) ha hb hs) fun σ H Q ⟨Z, F, ρ, S, q⟩ =>
    tE.seq S q fun r ρ1 v F1 H1 s1 S1 rx q1 => tE.seq S1 q1 fun r2 ρ2 u F2 H2 s2 S2 ry q2 => by
      obtain ⟨d, h3, q3⟩ := Post.bind0 q2 (fun e => item_noerr)
      exact item_ok S2.fh ((rx.sub s2).one S2.fh) ry h3 fun v' r' => q3 v' F2 H2 (s1.trans s2) S2 r'
theorem s_ixv {i : Nat} (hu : X.A.units + 1 < cLine) (ha : PE X a (tVar i)) (hb : PE X b (tE X.K cn W f')) (hs : PlainIx b) :
    PE X (.Subscript a b pos) (tE X.K cn W fun env => if bound env i then (f' env).bind fun (y, env) => (pk env i).bind fun x => (item x y.d).bind fun d => .ok (.v d, env) else .bad) :=
  PE.weak (pe_ix (ix_seq.or (ix_dic hu)) ha hb hs) fun σ H Q ⟨Z, F, ρ, S, q⟩ => by
    dsimp only at q
    split at q
    · rename_i hb
      obtain ⟨v, e1⟩ := bound_ok S hb
      refine ⟨v, e1, ?_⟩
      refine tE.seq S q fun r2 ρ2 u F2 H2 s2 S2 ry q2 => ?_
      obtain ⟨x, h2, q3⟩ := Post.bind0 q2 (fun e => pk_noerr)
      obtain ⟨d, h3, q4⟩ := Post.bind0 q3 (fun e => item_noerr)
      obtain ⟨v', e2, r1⟩ := pk_ok S2 h2
      rw [e1] at e2; cases e2
      exact item_ok S2.fh r1 ry h3 fun v' r' => q4 v' F2 H2 s2 S2 r'
    · exact q.elim

/-! ### slices -/
theorem sIx_eq (n d : Nat) (o : Option Int) : HT.sIx n d o = sIx n d o := by cases o <;> rfl
theorem cut_eq {α : Type} (xs : List α) (lo hi : Option Int) : (xs.drop (HT.sIx xs.length 0 lo)).take (HT.sIx xs.length xs.length hi - HT.sIx xs.length 0 lo) = cut xs lo hi := by
  unfold cut; rw [sIx_eq, sIx_eq]
theorem RpL.cut {K : PySem.W.Frag} {F : Hp} {xs : List V} {ds : List D} (r : RpL K F xs ds) (lo hi : Option Int) : RpL K F (cutV xs lo hi) (MP.cut ds lo hi) := by
  unfold cutV
  rw [cut_eq]
  unfold MP.cut
  rw [r.length]
  exact (r.drop _).take _
def rSlD (K : PySem.W.Frag) : V → Option Int → Option Int → Hp → VK → Prop := fun x lo hi H Q => rSlL K x lo hi H Q ∨ (rSlA K x lo hi H Q ∨ rSlS x lo hi H Q)
theorem sl_seq : SlR X (rSlD X.K) := sl_list.or (sl_tupA.or sl_str)
theorem cut_whole {α : Type} {xs : List α} {lo hi : Option Int} (h1 : sIx xs.length 0 lo = 0) (h2 : sIx xs.length xs.length hi = xs.length) : cut xs lo hi = xs := by
  unfold cut; rw [h1, h2]; simp
theorem slice_ok {Z F H : Hp} {σ : L2.St} {ρ : En} {x : V} {a : D} {lo hi : Option Int} {r : R} (S : Sok X.K cn Z F H σ ρ) (hx : Rp X.K F x a) (h : slice a lo hi = .ok r) {Q : VK}
    (k : ∀ v F' H', Sub F F' → Sok X.K cn Z F' H' σ ρ → RR X.K Z F' H' σ ρ v r → Q v H') : rSlD X.K x lo hi H Q := by
  unfold slice at h
  split at h
  · obtain ⟨p, xs, rfl, h1, h2⟩ := hx.inv_lst
    cases h
    exact .inl ⟨p, xs, rfl, SqL.of (S.fh _ _ h1), fun q hq => k _ F _ (Sub.refl F) (S.new hq _) (RR.new_lst S hq (h2.cut lo hi))⟩
  · obtain ⟨p, xs, rfl, h1, h2⟩ := hx.inv_tup
    cases h
    refine .inr (.inl ⟨p, xs, rfl, SqT.sub S.fh h1, fun hw => ?_, fun hw q hq => ?_⟩)
    · rw [h2.length, sIx_eq, sIx_eq] at hw
      rw [cut_whole hw.1 hw.2] at k
      exact k _ F H (Sub.refl F) S (.tup h1 h2)
    · exact k _ _ _ (S.subT hq _) (S.newT hq _) (Rp.new_tup S hq (h2.cut lo hi))
  · rename_i z
    cases hx
    split at h <;> cases h
    rename_i hl
    refine .inr (.inr ⟨_, rfl, by rw [← line_eq]; exact hl, ?_⟩)
    unfold cutS
    have e := cut_eq z.cps.toList lo hi
    rw [show z.cps.toList.length = z.length from Array.length_toList] at e
    rw [e]
    exact k _ F H (Sub.refl F) S (.str _)
  · cases h
theorem slice_noerr {a : D} {lo hi : Option Int} {e : Ex} : slice a lo hi ≠ .err e := by unfold slice; split <;> (try split) <;> intro h <;> cases h
variable {o o' : En → Out (Option Int × En)} {lo hi : Option Expr}
theorem s_noPart : PO X none (tO X.K cn W fun env => .ok (none, env)) := PO.weak po_none fun σ H Q ⟨Z, F, ρ, S, q⟩ => q F H (Sub.refl F) S
theorem s_part (ha : PE X a (tE X.K cn W f)) : PO X (some a) (tO X.K cn W fun env => (f env).bind fun (x, env) => match x.d with | .int i => .ok (some i, env) | _ => .bad) :=
  PO.weak (po_some ha) fun σ H Q ⟨Z, F, ρ, S, q⟩ => tE.seq S q fun r ρ1 v F1 H1 s1 S1 rx q1 => by
    dsimp only at q1
    generalize r.d = dd at rx q1
    cases dd <;> first | exact q1.elim | skip
    cases rx
    exact ⟨_, rfl, q1 F1 H1 s1 S1⟩
theorem s_sl {p2 : Pos} (ha : PE X a (tE X.K cn W f)) (hl : PO X lo (tO X.K cn W o)) (hh : PO X hi (tO X.K cn W o')) :
    PE X (.Subscript a (.Slice lo hi none p2) pos) (tE X.K cn W fun env => (f env).bind fun (x, env) => (o env).bind fun (l, env) => (o' env).bind fun (h, env) => (slice x.d l h).bind fun r => .ok (r, env)) :=
  PE.weak (pe_slice sl_seq ha hl hh) fun σ H Q ⟨Z, F, ρ, S, q⟩ =>
    tE.seq S q fun r ρ1 v F1 H1 s1 S1 rx q1 => tO.seq S1 q1 fun l ρ2 F2 H2 s2 S2 q2 => tO.seq S2 q2 fun h ρ3 F3 H3 s3 S3 q3 => by
      obtain ⟨r4, h4, q4⟩ := Post.bind0 q3 (fun e => slice_noerr)
      exact slice_ok S3 (rx.sub (s2.trans s3)) h4 fun v4 F4 H4 s4 S4 r4 => q4 v4 F4 H4 ((s1.trans (s2.trans s3)).trans s4) S4 r4

/-! ### calls of defs -/
/-- no first list -/
abbrev c0 (cn : Program × World × Oa) : Program × World × Oa := (cn.1, cn.2.1, ⟨none, cn.2.2.ts⟩)
/-- what a def promises -/
def spF (K : PySem.W.Frag) (cn : Program × World × Oa) (own : Bool) (np : Nat) (c : List D → List D → Out (R × List D)) : Sp := fun vs H Q E =>
  ∃ Z F σ ρ xs ds vs', Sok K cn Z F H σ ρ ∧ RpL K F vs' ds ∧ vs.length = np ∧
    (own = true → ∃ a, σ = [some (.ref a)] ∧ ρ = [.ow xs] ∧ vs = .ref a :: vs') ∧ (own = false → σ = [] ∧ ρ = [] ∧ xs = [] ∧ vs = vs') ∧
    match c xs ds with
    | .ok (r, ys) => ∀ v F' H', Sub F F' → Sok K cn Z F' H' σ (if own then [.ow ys] else []) → RR K Z F' H' σ (if own then [.ow ys] else []) v r → Q v H'
    | .err e => own = false ∧ ∀ F' H', Sub F F' → Sub F' H' → Sub Z H' → (∀ a, Z a ≠ none → F' a = none) → (∀ t ∈ cn.2.2.ts, LamX.TabS H' t.1 t.2 ∧ F' t.1 = none) → E (.ref (He.ga K e.cls)) none H'
    | .bad => False
/-- a def of the table, as its callers need it -/
structure Fnd (X : Cx) (cn : Program × World × Oa) (C : CallF) (k : Nat) (x : Str) (own : Bool) (np : Nat) : Prop where
  mg : X.mg x = some (.ref (He.ga X.K x))
  kp : PySem.W.keepIn X.K (.ref (He.ga X.K x)) = true
  ok : ∃ fd ps, ps.length = np ∧ FnOk X.prog X.w X.K X.mg X.base (L2N.CX X.prog X.w) k (He.ga X.K x) fd ps (spF X.K (c0 cn) own np (C x)) ∧ Binds X.K fd ps []
  ar : ∀ xs ds, C x xs ds ≠ .bad → ds.length + (if own then 1 else 0) = np

open Classical in
/-- all that the caller's names own, but slot i -/
noncomputable def frame (Z H : Hp) (σ : L2.St) (ρ : En) (i : Option Nat) : Hp := fun a => if Z a ≠ none then Z a else if ∃ j, some j ≠ i ∧ OwnAt σ ρ j a then H a else none
theorem frame_z {Z H : Hp} {σ : L2.St} {ρ : En} {i : Option Nat} {a : Addr} (h : Z a ≠ none) : frame Z H σ ρ i a = Z a := by unfold frame; rw [if_pos h]
theorem frame_own {Z H : Hp} {σ : L2.St} {ρ : En} {i : Option Nat} {a : Addr} (h : Z a = none) {j : Nat} (hj : some j ≠ i) (o : OwnAt σ ρ j a) : frame Z H σ ρ i a = H a := by
  unfold frame; rw [if_neg (fun z => z h), if_pos ⟨j, hj, o⟩]
theorem frame_cases {Z H : Hp} {σ : L2.St} {ρ : En} {i : Option Nat} {a : Addr} (h : frame Z H σ ρ i a ≠ none) : (Z a ≠ none ∧ frame Z H σ ρ i a = Z a) ∨ (Z a = none ∧ (∃ j, some j ≠ i ∧ OwnAt σ ρ j a) ∧ frame Z H σ ρ i a = H a) := by
  by_cases z : Z a ≠ none
  · exact .inl ⟨z, frame_z z⟩
  · by_cases o : ∃ j, some j ≠ i ∧ OwnAt σ ρ j a
    · refine .inr ⟨Classical.not_not.mp z, o, ?_⟩
      obtain ⟨j, hj, o⟩ := o
      exact frame_own (Classical.not_not.mp z) hj o
    · exact absurd (by unfold frame; rw [if_neg z, if_neg o]) h
theorem Sok.frame_tab {Z F H : Hp} {σ : L2.St} {ρ : En} {i : Option Nat} {P : Addr} {x : Str} (S : Sok X.K cn Z F H σ ρ) (hz : Z P = none) (t : LamX.TabS H P x) : frame Z H σ ρ i P = none := by
  unfold frame
  rw [if_neg (fun q => q hz), if_neg]
  rintro ⟨j, _, o⟩
  obtain ⟨ps, h1, _⟩ := t
  obtain ⟨e, ⟨ds, h⟩ | ⟨kvs, h⟩⟩ := o
  · obtain ⟨b, xs, e2, g, _⟩ := S.ow j ds h
    rw [e] at e2; cases e2
    rw [h1] at g; cases g
  · obtain ⟨b, xs, e2, g, _⟩ := S.od j kvs h
    rw [e] at e2; cases e2
    rw [h1] at g; unfold MPS.DTO at g; cases g
theorem Sok.enter {Z F H : Hp} {σ : L2.St} {ρ : En} (S : Sok X.K cn Z F H σ ρ) : Sok X.K (c0 cn) (frame Z H σ ρ none) F H [] [] where
  tb := fun t ht => let ⟨x, y, z⟩ := S.tb t ht; ⟨x, y, S.frame_tab z x⟩
  fh := S.fh
  zh := fun a o h => by
    rcases frame_cases (by rw [h]; intro z; cases z) with ⟨_, e⟩ | ⟨_, _, e⟩
    · exact S.zh a o (e ▸ h)
    · exact e ▸ h
  zf := fun a h => by
    rcases frame_cases h with ⟨z, _⟩ | ⟨_, ⟨j, _, o⟩, _⟩
    · exact S.zf a z
    · exact (S.own_there o).2.1
  zt := fun a xs h => by
    rcases frame_cases (by rw [h]; intro z; cases z) with ⟨_, e⟩ | ⟨_, ⟨j, _, o⟩, e⟩
    · exact S.zt a xs (e ▸ h)
    · obtain ⟨u, h1, h2⟩ := (S.own_there o).1
      rw [e, h1] at h
      exact h2 xs (Option.some.inj h)
  len := rfl
  fz := fun i d h => by simp at h
  ow := fun i d h => by simp at h
  od := fun i d h => by simp at h
  dj := fun i j a h => by obtain ⟨h, _⟩ := h; simp at h
  p0 := fun a h => by cases h
/-- behind a call -/
theorem Sok.leave {Z F H F' H' : Hp} {σ : L2.St} {ρ : En} (S : Sok X.K cn Z F H σ ρ) (s : Sub F F') (S' : Sok X.K (c0 cn) (frame Z H σ ρ none) F' H' [] []) : Sok X.K cn Z F' H' σ ρ where
  tb := fun t ht => let ⟨x, y, _⟩ := S'.tb t ht; ⟨x, y, (S.tb t ht).2.2⟩
  fh := S'.fh
  zh := fun a o h => S'.zh a o (by rw [frame_z (by rw [h]; intro z; cases z)]; exact h)
  zf := fun a h => S'.zf a (by rw [frame_z h]; exact h)
  zt := S.zt
  len := S.len
  fz := fun i d h => let ⟨v, e, r⟩ := S.fz i d h; ⟨v, e, r.sub s⟩
  ow := fun i ds h => by
    obtain ⟨a, xs, e, h1, h2, h3, h4⟩ := S.ow i ds h
    have fr := frame_own (H := H) (i := none) h4 (by intro z; cases z) ⟨e, .inl ⟨ds, h⟩⟩
    exact ⟨a, xs, e, S'.zh a _ (fr.trans h1), h2.sub s, S'.zf a (by rw [fr, h1]; intro z; cases z), h4⟩
  od := fun i ds h => by
    obtain ⟨a, xs, e, h1, h2, h3, h4⟩ := S.od i ds h
    have fr := frame_own (H := H) (i := none) h4 (by intro z; cases z) ⟨e, .inr ⟨ds, h⟩⟩
    exact ⟨a, xs, e, S'.zh a _ (fr.trans h1), h2.sub s, S'.zf a (by rw [fr, h1]; intro z; cases z), h4⟩
  dj := S.dj
  p0 := S.p0
theorem RR.leave {Z F H F' H' : Hp} {σ : L2.St} {ρ : En} {v : V} {r : R} (S : Sok X.K cn Z F H σ ρ) (h : RR X.K (frame Z H σ ρ none) F' H' [] [] v r) : RR X.K Z F' H' σ ρ v r := by
  cases r with
  | v d => exact h
  | o ds =>
    obtain ⟨a, xs, rfl, h1, h2, h3, h4, _⟩ := h
    have hz : Z a = none := by
      cases q : Z a with
      | none => rfl
      | some u => rw [frame_z (by rw [q]; intro z; cases z), q] at h4; cases h4
    refine ⟨a, xs, rfl, h1, h2, h3, hz, fun i o => ?_⟩
    have := frame_own (H := H) (i := none) hz (by intro z; cases z) o
    rw [this] at h4
    obtain ⟨⟨u, e, _⟩, _⟩ := S.own_there o
    rw [e] at h4; cases h4

/-- f(e, ..) -/
theorem call_ok {Z F H : Hp} {σ : L2.St} {ρ : En} {x : Str} {np : Nat} {vs : List V} {ds : List D} {P : R → En → Prop} (S : Sok X.K cn Z F H σ ρ) (r : RpL X.K F vs ds) (har : ∀ xs ds, C x xs ds ≠ .bad → ds.length + 0 = np) {Q : VK}
    (q : Post ((C x [] ds).bind fun (r, _) => .ok (r, ρ)) (fun r ρ' => ∀ v F' H', Sub F F' → Sok X.K cn Z F' H' σ ρ' → RR X.K Z F' H' σ ρ' v r → Q v H') (EE X.K cn Z F W σ)) :
    spF X.K (c0 cn) false np (C x) (vs ++ []) H Q (WE W σ) := by
  rw [List.append_nil]
  refine ⟨frame Z H σ ρ none, F, [], [], [], ds, vs, S.enter, r, ?_, (fun h => by cases h), fun _ => ⟨rfl, rfl, rfl, rfl⟩, ?_⟩
  · rw [r.length]
    refine har [] ds fun h => ?_
    rw [h] at q; exact q
  · cases e : C x [] ds with
    | bad => rw [e] at q; exact q
    | err ex =>
      rw [e] at q
      refine ⟨rfl, fun F' H' s1 s2 s3 s4 s5 => q F' H' s1 s2 (fun a o h => s3 a o ?_) (fun a h => s4 a ?_) s5⟩
      · rw [frame_z (by rw [h]; intro z; cases z)]; exact h
      · rw [frame_z h]; exact h
    | ok pr =>
      obtain ⟨r1, ys⟩ := pr
      rw [e] at q
      exact fun v F' H' s1 S1 rr => q v F' H' s1 (S.leave s1 S1) (RR.leave S rr)
theorem s_call {x : Str} {k np : Nat} (Fn : Fnd X cn C k x false np) (hr : Room k X.A) (tk : L2N.Takes X W) (hg : Gl X x) (ha : PA X (e :: es) (tA X.K cn W h))
    (hdb : (x == ("__debug__" : Str)) = false) (he : starEach (e :: es) X.env = (false, eval e X.env) :: starEach es X.env) (hpl : (backTo pos (starEach es X.env)).any (·.1) = false) :
    PE X (.Call (.Name x p) (e :: es) [] pos) (tE X.K cn W fun env => (h env).bind fun (ds, env) => (C x [] ds).bind fun (r, _) => .ok (r, env)) := by
  obtain ⟨fd, ps, hps, ok, hb⟩ := Fn.ok
  refine PE.weak (pe_callSD (E := WE W) ok hr hg Fn.mg Fn.kp hb .nil (L2N.passAt tk) ha hdb he hpl) fun σ H Q ⟨Z, F, ρ, S, q⟩ => ?_
  exact tA.seq S q fun ds ρ1 vs F1 H1 s1 S1 r1 q1 => call_ok (P := fun _ _ => True) S1 r1 (fun xs ds h => Fn.ar xs ds h) (q1.imp (fun r ρ2 h v F2 H2 s2 S2 r2 => h v F2 H2 (s1.trans s2) S2 r2) fun _ h => h)
end
end MP

end
section
set_option linter.all false
set_option Elab.async false
set_option maxRecDepth 100000
set_option maxHeartbeats 4000000
/-! Calls with a list of one's own; built-ins; dicts. -/
namespace MP
open PySem PySem.Spec PyProof.Rows L2
theorem blen_noerr {d : D} {e : Ex} : blen d ≠ .err e := by unfold blen; split <;> (try split) <;> intro h <;> cases h
theorem bi_noerr {k : BI} {ds : List D} {e : Ex} : bi1 k ds ≠ .err e := by
  unfold bi1
  split <;> (first | unfold blen | unfold babs | unfold bint | unfold bbool | unfold bstr | unfold blist | unfold btuple | unfold bsum | unfold bmax | unfold bmin | unfold bsset | unfold bsplit | unfold bjoin | unfold bupper | skip) <;> (try split) <;> (try split) <;> (try split) <;> intro h <;> cases h

section
variable {X : Cx} {cn : Program × World × Oa} {W : WX} {e a b c : Expr} {pos p : Pos} {f f' f'' : En → Out (R × En)} {C : CallF} {es : List Expr} {h : En → Out (List D × En)}

theorem Sok.enterO {Z F H : Hp} {σ : L2.St} {ρ : En} {i : Nat} {a : Addr} {xs : List D} (S : Sok X.K cn Z F H σ ρ) (hi : σ[i]? = some (some (.ref a))) (ho : ρ[i]? = some (.ow xs)) :
    Sok X.K (c0 cn) (frame Z H σ ρ (some i)) F H [some (.ref a)] [.ow xs] := by
  obtain ⟨a', vs, e1, h1, h2, h3, h4⟩ := S.ow i xs ho
  rw [hi] at e1; cases e1
  have hz : frame Z H σ ρ (some i) a = none := by
    cases q : frame Z H σ ρ (some i) a with
    | none => rfl
    | some u =>
      rcases frame_cases (by rw [q]; intro z; cases z) with ⟨z, _⟩ | ⟨_, ⟨j, hj, o⟩, _⟩
      · exact absurd h4 z
      · exact absurd (congrArg some (S.dj j i a o ⟨hi, .inl ⟨xs, ho⟩⟩)) hj
  exact {
    tb := fun t ht => let ⟨x, y, z⟩ := S.tb t ht; ⟨x, y, S.frame_tab z x⟩
    fh := S.fh
    zh := fun a o h => by
      rcases frame_cases (by rw [h]; intro z; cases z) with ⟨_, e⟩ | ⟨_, _, e⟩
      · exact S.zh a o (e ▸ h)
      · exact e ▸ h
    zf := fun a h => by
      rcases frame_cases h with ⟨z, _⟩ | ⟨_, ⟨j, _, o⟩, _⟩
      · exact S.zf a z
      · exact (S.own_there o).2.1
    zt := fun a xs h => by
      rcases frame_cases (by rw [h]; intro z; cases z) with ⟨_, e⟩ | ⟨_, ⟨j, _, o⟩, e⟩
      · exact S.zt a xs (e ▸ h)
      · obtain ⟨u, h1, h2⟩ := (S.own_there o).1
        rw [e, h1] at h
        exact h2 xs (Option.some.inj h)
    len := rfl
    fz := fun i d h => by
      cases i with
      | zero => simp at h
      | succ i => simp at h
    ow := fun i d h => by
      cases i with
      | zero => simp at h; subst h; exact ⟨a, vs, rfl, h1, h2, h3, hz⟩
      | succ i => simp at h
    od := fun i d h => by
      cases i with
      | zero => simp at h
      | succ i => simp at h
    dj := fun i j a h g => by
      cases i with
      | succ i => obtain ⟨h, _⟩ := h; simp at h
      | zero =>
        cases j with
        | succ j => obtain ⟨h, _⟩ := g; simp at h
        | zero => rfl
    p0 := fun a h => by cases h }
theorem set_cases {ρ : En} {i j : Nat} {s u : Sl} (h : (ρ.set i u)[j]? = some s) : (j = i ∧ s = u) ∨ (j ≠ i ∧ ρ[j]? = some s) := by
  by_cases q : j = i
  · subst q
    by_cases hl : j < ρ.length
    · rw [List.getElem?_set_self hl] at h
      exact .inl ⟨rfl, (Option.some.inj h).symm⟩
    · rw [List.getElem?_eq_none (by rw [List.length_set]; omega)] at h; cases h
  · rw [List.getElem?_set_ne (Ne.symm q)] at h
    exact .inr ⟨q, h⟩
theorem own_set {σ : L2.St} {ρ : En} {i j : Nat} {b : Addr} {ys : List D} (h : OwnAt σ (ρ.set i (.ow ys)) j b) (hi : ∃ xs, ρ[i]? = some (.ow xs)) : OwnAt σ ρ j b := by
  obtain ⟨g1, ⟨es, g2⟩ | ⟨ks, g2⟩⟩ := h
  · rcases set_cases g2 with ⟨rfl, _⟩ | ⟨_, z⟩
    · obtain ⟨xs, hi⟩ := hi; exact ⟨g1, .inl ⟨xs, hi⟩⟩
    · exact ⟨g1, .inl ⟨es, z⟩⟩
  · rcases set_cases g2 with ⟨_, z⟩ | ⟨_, z⟩
    · cases z
    · exact ⟨g1, .inr ⟨ks, z⟩⟩
theorem Sok.leaveO {Z F H F' H' : Hp} {σ : L2.St} {ρ : En} {i : Nat} {a : Addr} {xs ys : List D} (S : Sok X.K cn Z F H σ ρ) (hi : σ[i]? = some (some (.ref a))) (ho : ρ[i]? = some (.ow xs)) (s : Sub F F')
    (S' : Sok X.K (c0 cn) (frame Z H σ ρ (some i)) F' H' [some (.ref a)] [.ow ys]) : Sok X.K cn Z F' H' σ (ρ.set i (.ow ys)) := by
  obtain ⟨a', vs, e1, h1, h2, h3, h4⟩ := S.ow i xs ho
  rw [hi] at e1; cases e1
  obtain ⟨a', ws, e1, g1, g2, g3, g4⟩ := S'.ow 0 ys rfl
  cases (show some (some (V.ref a)) = some (some (V.ref a')) from e1)
  exact {
    tb := fun t ht => let ⟨x, y, _⟩ := S'.tb t ht; ⟨x, y, (S.tb t ht).2.2⟩
    fh := S'.fh
    zh := fun a o h => S'.zh a o (by rw [frame_z (by rw [h]; intro z; cases z)]; exact h)
    zf := fun a h => S'.zf a (by rw [frame_z h]; exact h)
    zt := S.zt
    len := by rw [List.length_set]; exact S.len
    fz := fun j d h => by
      rcases set_cases h with ⟨_, z⟩ | ⟨_, z⟩
      · cases z
      · obtain ⟨v, e, r⟩ := S.fz j d z; exact ⟨v, e, r.sub s⟩
    ow := fun j ds h => by
      rcases set_cases h with ⟨rfl, z⟩ | ⟨q, z⟩
      · cases z; exact ⟨a, ws, hi, g1, g2, g3, h4⟩
      · obtain ⟨b, xs, e, k1, k2, k3, k4⟩ := S.ow j ds z
        have fr := frame_own (H := H) (i := some i) k4 (fun z => q (Option.some.inj z)) ⟨e, .inl ⟨ds, z⟩⟩
        exact ⟨b, xs, e, S'.zh b _ (fr.trans k1), k2.sub s, S'.zf b (by rw [fr, k1]; intro z; cases z), k4⟩
    od := fun j ds h => by
      rcases set_cases h with ⟨_, z⟩ | ⟨q, z⟩
      · cases z
      · obtain ⟨b, xs, e, k1, k2, k3, k4⟩ := S.od j ds z
        have fr := frame_own (H := H) (i := some i) k4 (fun z => q (Option.some.inj z)) ⟨e, .inr ⟨ds, z⟩⟩
        exact ⟨b, xs, e, S'.zh b _ (fr.trans k1), k2.sub s, S'.zf b (by rw [fr, k1]; intro z; cases z), k4⟩
    dj := fun j l b hj hl => S.dj j l b (own_set hj ⟨xs, ho⟩) (own_set hl ⟨xs, ho⟩)
    p0 := S.p0 }
theorem RR.leaveO {Z F H F' H' : Hp} {σ : L2.St} {ρ : En} {i : Nat} {a : Addr} {xs ys : List D} {v : V} {r : R} (S : Sok X.K cn Z F H σ ρ) (hi : σ[i]? = some (some (.ref a))) (ho : ρ[i]? = some (.ow xs))
    (h : RR X.K (frame Z H σ ρ (some i)) F' H' [some (.ref a)] [.ow ys] v r) : RR X.K Z F' H' σ (ρ.set i (.ow ys)) v r := by
  cases r with
  | v d => exact h
  | o ds =>
    obtain ⟨b, zs, rfl, h1, h2, h3, h4, h5⟩ := h
    have hz : Z b = none := by
      cases q : Z b with
      | none => rfl
      | some u => rw [frame_z (by rw [q]; intro z; cases z), q] at h4; cases h4
    refine ⟨b, zs, rfl, h1, h2, h3, hz, fun j o => ?_⟩
    have o := own_set o ⟨xs, ho⟩
    by_cases q : j = i
    · subst q
      obtain ⟨e, _⟩ := o
      rw [hi] at e; cases e
      exact h5 0 ⟨rfl, .inl ⟨ys, rfl⟩⟩
    · have := frame_own (H := H) (i := some i) hz (fun z => q (Option.some.inj z)) o
      rw [this] at h4
      obtain ⟨⟨u, e, _⟩, _⟩ := S.own_there o
      rw [e] at h4; cases h4
/-- f(vat, ..): the list in slot i is the callee's to change -/
theorem s_callo {x : Str} {k np i : Nat} (Fn : Fnd X cn C k x true np) (hr : Room k X.A) (tk : L2N.Takes X W) (hg : Gl X x) (hv : PE X e (tVar i)) (ha : PA X es (tA X.K cn W h))
    (hdb : (x == ("__debug__" : Str)) = false) (he : starEach (e :: es) X.env = (false, eval e X.env) :: starEach es X.env) (hpl : (backTo pos (starEach es X.env)).any (·.1) = false) :
    PE X (.Call (.Name x p) (e :: es) [] pos) (tE X.K cn W fun env => match get env i with
      | .ow _ => (h env).bind fun (ds, env) => (match get env i with
        | .ow xs => (noErr (C x xs ds)).bind fun (r, ys) => .ok (r, env.set i (.ow ys))
        | _ => .bad)
      | _ => .bad) := by
  obtain ⟨fd, ps, hps, ok, hb⟩ := Fn.ok
  refine PE.weak (pe_callSD (E := WE W) ok hr hg Fn.mg Fn.kp hb .nil (L2N.passAt tk) (pa_cons hv ha he) hdb he hpl) fun σ H Q ⟨Z, F, ρ, S, q⟩ => ?_
  dsimp only at q
  split at q
  · rename_i xs0 e0
    obtain ⟨a0, vs0, e1, _⟩ := S.ow i xs0 (get_some e0 (by intro h; cases h))
    refine ⟨.ref a0, e1, ?_⟩
    refine tA.seq S q fun ds ρ1 vs F1 H1 s1 S1 r1 q1 => ?_
    dsimp only at q1
    split at q1
    · rename_i xs e2
      have ho := get_some e2 (by intro h; cases h)
      rw [List.append_nil]
      refine ⟨frame Z H1 σ ρ1 (some i), F1, [some (.ref a0)], [.ow xs], xs, ds, vs, S1.enterO e1 ho, r1, ?_, fun _ => ⟨a0, rfl, rfl, rfl⟩, (fun h => by cases h), ?_⟩
      · have := Fn.ar xs ds (fun h => by rw [h] at q1; exact q1)
        simp at this
        simp [r1.length]
        exact this
      · cases e3 : C x xs ds with
        | bad => rw [e3] at q1; exact q1
        | err ex => rw [e3] at q1; exact q1.elim
        | ok pr =>
          obtain ⟨r2, ys⟩ := pr
          rw [e3] at q1
          exact fun v F' H' s2 S2 rr => q1 v F' H' (s1.trans s2) (S1.leaveO e1 ho s2 S2) (RR.leaveO S1 e1 ho rr)
    · exact q1.elim
  · exact q.elim

/-! ### built-ins -/
theorem s_callB {x : Str} {id : String} {r : List V → Hp → VK → Prop} (k : BI) (hc : CallR X (.builtin id) r) (hg : Gl X x) (hm : X.mg x = none) (hv : bootBuiltins x = some (.builtin id)) (ha : PA X (e :: es) (tA X.K cn W h))
    (hn : x ≠ "__name__") (hdb : (x == ("__debug__" : Str)) = false) (he : starEach (e :: es) X.env = (false, eval e X.env) :: starEach es X.env) (hpl : (backTo pos (starEach es X.env)).any (·.1) = false)
    (ok : ∀ Z F H σ ρ vs ds (Q : VK), Sok X.K cn Z F H σ ρ → RpL X.K F vs ds → ∀ r1, bi1 k ds = .ok r1 → (∀ v F' H', Sub F F' → Sok X.K cn Z F' H' σ ρ → RR X.K Z F' H' σ ρ v r1 → Q v H') → r vs H Q) :
    PE X (.Call (.Name x p) (e :: es) [] pos) (tE X.K cn W fun env => (h env).bind fun (ds, env) => (bi1 k ds).bind fun r => .ok (r, env)) :=
  PE.weak (pe_callB hc hg hm hv ha hn hdb he hpl) fun σ H Q ⟨Z, F, ρ, S, q⟩ =>
    tA.seq S q fun ds ρ1 vs F1 H1 s1 S1 r1 q1 => by
      obtain ⟨r2, h2, q2⟩ := Post.bind0 q1 (fun e => bi_noerr)
      exact ok Z F1 H1 σ ρ1 vs ds Q S1 r1 r2 h2 fun v F2 H2 s2 S2 rr => q2 v F2 H2 (s1.trans s2) S2 rr
theorem s_callT {x : Str} {T : String} {r : List V → Hp → VK → Prop} (k : BI) (hc : CallR X (.type T) r) (hg : Gl X x) (hm : X.mg x = none) (hv : bootBuiltins x = some (.type T)) (ha : PA X (e :: es) (tA X.K cn W h))
    (hn : x ≠ "__name__") (hdb : (x == ("__debug__" : Str)) = false) (he : starEach (e :: es) X.env = (false, eval e X.env) :: starEach es X.env) (hpl : (backTo pos (starEach es X.env)).any (·.1) = false)
    (ok : ∀ Z F H σ ρ vs ds (Q : VK), Sok X.K cn Z F H σ ρ → RpL X.K F vs ds → ∀ r1, bi1 k ds = .ok r1 → (∀ v F' H', Sub F F' → Sok X.K cn Z F' H' σ ρ → RR X.K Z F' H' σ ρ v r1 → Q v H') → r vs H Q) :
    PE X (.Call (.Name x p) (e :: es) [] pos) (tE X.K cn W fun env => (h env).bind fun (ds, env) => (bi1 k ds).bind fun r => .ok (r, env)) :=
  PE.weak (pe_callTy hc hg hm hv ha hn hdb he hpl) fun σ H Q ⟨Z, F, ρ, S, q⟩ =>
    tA.seq S q fun ds ρ1 vs F1 H1 s1 S1 r1 q1 => by
      obtain ⟨r2, h2, q2⟩ := Post.bind0 q1 (fun e => bi_noerr)
      exact ok Z F1 H1 σ ρ1 vs ds Q S1 r1 r2 h2 fun v F2 H2 s2 S2 rr => q2 v F2 H2 (s1.trans s2) S2 rr

theorem one_of {F : Hp} {vs : List V} {d : D} (r : RpL X.K F vs [d]) : ∃ v, vs = [v] ∧ Rp X.K F v d := by
  cases r with
  | cons a b => cases b; exact ⟨_, rfl, a⟩
theorem two_of {F : Hp} {vs : List V} {d d' : D} (r : RpL X.K F vs [d, d']) : ∃ v v', vs = [v, v'] ∧ Rp X.K F v d ∧ Rp X.K F v' d' := by
  cases r with
  | cons a b =>
    obtain ⟨v', rfl, b'⟩ := one_of b
    exact ⟨_, _, rfl, a, b'⟩
theorem intsD_of {F : Hp} : ∀ {ds : List D} {ns : List Int} {vs : List V}, intsD ds = some ns → RpL X.K F vs ds → vs = ns.map V.int
  | [], ns, vs, h, r => by cases h; cases r; rfl
  | .int i :: ds, ns, vs, h, r => by
    unfold intsD at h
    cases e : intsD ds with
    | none => rw [e] at h; simp at h
    | some l =>
      rw [e] at h
      simp at h
      subst h
      cases r with
      | cons a b => cases a; rw [intsD_of e b]; rfl
  | .non :: _, ns, vs, h, r => by simp [intsD] at h
  | .bl _ :: _, ns, vs, h, r => by simp [intsD] at h
  | .str _ :: _, ns, vs, h, r => by simp [intsD] at h
  | .tup _ :: _, ns, vs, h, r => by simp [intsD] at h
  | .lst _ :: _, ns, vs, h, r => by simp [intsD] at h
  | .frz _ :: _, ns, vs, h, r => by simp [intsD] at h
  | .fn _ :: _, ns, vs, h, r => by simp [intsD] at h
  | .dic _ :: _, ns, vs, h, r => by simp [intsD] at h
theorem len_ok {Z F H : Hp} {σ : L2.St} {ρ : En} {v : V} {d : D} {r1 : R} {Q : VK} (S : Sok X.K cn Z F H σ ρ) (r : Rp1 X.K F H v d) (h : blen d = .ok r1)
    (k : ∀ v F' H', Sub F F' → Sok X.K cn Z F' H' σ ρ → RR X.K Z F' H' σ ρ v r1 → Q v H') : ∃ x n, [v] = [x] ∧ LenV X.K x H n ∧ Q (.int n) H := by
  unfold blen at h
  split at h
  · obtain ⟨a, xs, rfl, h1, h2⟩ := r
    cases h
    exact ⟨_, _, rfl, .inl ⟨xs, SqL.of h1, rfl⟩, by rw [h2.length]; exact k _ F H (Sub.refl F) S (.int _)⟩
  · obtain ⟨a, xs, rfl, h1, h2⟩ := r
    cases h
    exact ⟨_, _, rfl, .inr ⟨xs, h1, rfl⟩, by rw [h2.length]; exact k _ F H (Sub.refl F) S (.int _)⟩
  · cases (show Rp X.K F v _ from r) with
    | frz h1 =>
      cases h
      exact ⟨_, _, rfl, .inl ⟨_, SqL.sub S.fh h1, rfl⟩, by rw [List.length_map]; exact k _ F H (Sub.refl F) S (.int _)⟩
  · cases (show Rp X.K F v _ from r)
    split at h <;> cases h
    rename_i hl
    exact ⟨_, _, rfl, ⟨by rw [← line_eq]; exact hl, rfl⟩, k _ F H (Sub.refl F) S (.int _)⟩
  · cases h
/-- the state of a built-in's call, and its end -/
abbrev BOk (X : Cx) (cn : Program × World × Oa) (k : BI) (r : List V → Hp → VK → Prop) : Prop := ∀ Z F H σ ρ vs ds (Q : VK), Sok X.K cn Z F H σ ρ → RpL X.K F vs ds → ∀ r1, bi1 k ds = .ok r1 → (∀ v F' H', Sub F F' → Sok X.K cn Z F' H' σ ρ → RR X.K Z F' H' σ ρ v r1 → Q v H') → r vs H Q
theorem bad1 {k : BI} {ds : List D} {r1 : R} (h : bi1 k ds = .ok r1) (hk : k = .len ∨ k = .abs ∨ k = .int ∨ k = .bool ∨ k = .str ∨ k = .list ∨ k = .tuple ∨ k = .sum ∨ k = .sset ∨ k = .upper) : ∃ d, ds = [d] := by
  unfold bi1 at h
  split at h <;> first | exact ⟨_, rfl⟩ | (rcases hk with h | h | h | h | h | h | h | h | h | h <;> cases h; done) | cases h
theorem bad2 {k : BI} {ds : List D} {r1 : R} (h : bi1 k ds = .ok r1) (hk : k = .max2 ∨ k = .min2 ∨ k = .split ∨ k = .join) : ∃ d d', ds = [d, d'] := by
  unfold bi1 at h
  split at h <;> first | exact ⟨_, _, rfl⟩ | (rcases hk with h | h | h | h <;> cases h; done) | cases h
theorem ok_len : BOk X cn .len fun xs H Q => ∃ x n, xs = [x] ∧ LenV X.K x H n ∧ Q (.int n) H := fun Z F H σ ρ vs ds Q S r r1 h k => by
  obtain ⟨d, rfl⟩ := bad1 h (by simp)
  obtain ⟨v, rfl, q0⟩ := one_of r
  exact len_ok S (q0.one S.fh) h k
theorem ok_abs : BOk X cn .abs fun xs H Q => ∃ i, xs = [.int i] ∧ Q (.int (if i < 0 then -i else i)) H := fun Z F H σ ρ vs ds Q S r r1 h k => by
  obtain ⟨d, rfl⟩ := bad1 h (by simp)
  obtain ⟨v, rfl, q0⟩ := one_of r
  have h : babs d = .ok r1 := h
  unfold babs at h
  split at h <;> cases h
  cases q0
  exact ⟨_, rfl, k _ F H (Sub.refl F) S (.int _)⟩
theorem figs_dig : ∀ {l : List Nat} {acc v : Nat}, figs acc l = some v → PySem.NumText.AllDigits l ∧ l.foldl (fun acc c => acc * 10 + (c - 48)) acc = v
  | [], acc, v, h => by cases h; exact ⟨fun c hc => by (cases hc), rfl⟩
  | c :: r, acc, v, h => by
    unfold figs at h
    split at h
    · rename_i hc
      obtain ⟨h1, h2⟩ := figs_dig h
      refine ⟨fun d hd => ?_, ?_⟩
      · rcases List.mem_cons.mp hd with rfl | hd
        · exact hc
        · exact h1 d hd
      · rw [List.foldl_cons, Nat.mul_comm acc 10]; exact h2
    · cases h
theorem toInt_ok {x : Str} {n : Int} (h : toInt x = some n) (hl : x.cps.size ≤ 640) : PySem.intText? x = some n := by
  have hl2 : x.length ≤ 4300 := Nat.le_trans hl (by decide)
  unfold toInt at h
  split at h
  · cases h
  · rename_i c r e
    split at h
    · rename_i hc
      subst hc
      split at h
      · cases h
      · rename_i hr
        cases e2 : figs 0 r with
        | none => rw [e2] at h; cases h
        | some v =>
          rw [e2] at h
          cases h
          obtain ⟨h1, h2⟩ := figs_dig e2
          rw [PySem.intText_neg e h1 (by intro z; rw [z] at hr; simp at hr) hl2]
          unfold PySem.NumText.digitsVal
          rw [h2]
    · cases e2 : figs 0 (c :: r) with
      | none => rw [e2] at h; cases h
      | some v =>
        rw [e2] at h
        cases h
        obtain ⟨h1, h2⟩ := figs_dig e2
        have := PySem.intText_digits (x := x) (by rw [e]; exact h1) (by rw [e]; simp) hl2
        rw [this, e]
        unfold PySem.NumText.digitsVal
        rw [h2]
def rInt3 : List V → Hp → VK → Prop := fun xs H Q => ((∃ i, xs = [.int i] ∧ Q (.int i) H) ∨ ∃ k, xs = [.bl k] ∧ Q (.int (if k then 1 else 0)) H) ∨ ∃ a n, xs = [.str a] ∧ PySem.intText? a = some n ∧ a.length ≤ 640 ∧ Q (.int n) H
theorem call_int3 {X : Cx} : CallR X (.type "int") rInt3 := by
  intro pins s σ H xs us Q I r h
  rcases h with h | h
  · exact call_int1 pins s σ H xs us Q I r h
  · exact call_int_str pins s σ H xs us Q I r h
theorem ok_int : BOk X cn .int rInt3 := fun Z F H σ ρ vs ds Q S r r1 h k => by
  obtain ⟨d, rfl⟩ := bad1 h (by simp)
  obtain ⟨v, rfl, q0⟩ := one_of r
  have h : bint d = .ok r1 := h
  unfold bint at h
  split at h
  · cases h; cases q0
    exact .inl (.inl ⟨_, rfl, k _ F H (Sub.refl F) S (.int _)⟩)
  · cases h; cases q0
    exact .inl (.inr ⟨_, rfl, k _ F H (Sub.refl F) S (.int _)⟩)
  · cases q0
    split at h
    · rename_i hl
      split at h
      · rename_i n hn
        cases h
        exact .inr ⟨_, n, rfl, toInt_ok hn hl, hl, k _ F H (Sub.refl F) S (.int _)⟩
      · cases h
    · cases h
  · cases h
theorem ok_bool : BOk X cn .bool fun xs H Q => (∃ i, xs = [.int i] ∧ Q (.bl (i != 0)) H) ∨ ∃ k, xs = [.bl k] ∧ Q (.bl k) H := fun Z F H σ ρ vs ds Q S r r1 h k => by
  obtain ⟨d, rfl⟩ := bad1 h (by simp)
  obtain ⟨v, rfl, q0⟩ := one_of r
  have h : bbool d = .ok r1 := h
  unfold bbool at h
  split at h <;> cases h <;> cases q0
  · exact .inl ⟨_, rfl, k _ F H (Sub.refl F) S (.bl _)⟩
  · exact .inr ⟨_, rfl, k _ F H (Sub.refl F) S (.bl _)⟩
def rStr2 : List V → Hp → VK → Prop := fun xs H Q => (∃ i, xs = [.int i] ∧ i.natAbs.log2 < 1920 ∧ Q (.str (toString i)) H) ∨ ((∃ a, xs = [.str a] ∧ Q (.str a) H) ∨ ∃ b, xs = [.bl b] ∧ Q (.str (if b then PySem.Str.ofString "True" else PySem.Str.ofString "False")) H)
theorem call_str2 {X : Cx} : CallR X (.type "str") rStr2 := by
  intro pins s σ H xs us Q I r h
  rcases h with h | h | h
  · exact call_str_int pins s σ H xs us Q I r h
  · exact SkE.call_str_str pins s σ H xs us Q I r h
  · obtain ⟨b, rfl, q⟩ := h
    cases r with
    | cons r1 rr =>
      cases rr
      cases r1
      refine PySem.P.str_of_bool ⟨.str (if b then PySem.Str.ofString "True" else PySem.Str.ofString "False"), H, I.tok _, ⟨s.toks, ?_⟩, q⟩
      cases b <;> rfl
theorem ok_str : BOk X cn .str rStr2 := fun Z F H σ ρ vs ds Q S r r1 h k => by
  obtain ⟨d, rfl⟩ := bad1 h (by simp)
  obtain ⟨v, rfl, q0⟩ := one_of r
  have h : bstr d = .ok r1 := h
  unfold bstr at h
  split at h
  · split at h <;> cases h
    rename_i hl
    cases q0
    exact .inl ⟨_, rfl, hl, k _ F H (Sub.refl F) S (.str _)⟩
  · cases h
    cases q0
    exact .inr (.inl ⟨_, rfl, k _ F H (Sub.refl F) S (.str _)⟩)
  · cases h
    cases q0
    exact .inr (.inr ⟨_, rfl, k _ F H (Sub.refl F) S (.str _)⟩)
  · cases h
theorem ok_list : BOk X cn .list fun xs H Q => ∃ p ys, xs = [.ref p] ∧ (SqL X.K H p ys ∨ SqT X.K H p ys) ∧ ∀ l, H l = none → Q (.ref l) (upd H l (.lst ys)) := fun Z F H σ ρ vs ds Q S r r1 h k => by
  obtain ⟨d, rfl⟩ := bad1 h (by simp)
  obtain ⟨v, rfl, q0⟩ := one_of r
  have h : blist d = .ok r1 := h
  unfold blist at h
  split at h <;> cases h
  · obtain ⟨a, xs, rfl, h1, h2⟩ := q0.inv_lst
    exact ⟨a, xs, rfl, .inl (SqL.of (S.fh _ _ h1)), fun q hq => k _ F _ (Sub.refl F) (S.new hq _) (RR.new_lst S hq h2)⟩
  · obtain ⟨a, xs, rfl, h1, h2⟩ := q0.inv_tup
    exact ⟨a, xs, rfl, .inr (SqT.sub S.fh h1), fun q hq => k _ F _ (Sub.refl F) (S.new hq _) (RR.new_lst S hq h2)⟩
theorem ok_tuple : BOk X cn .tuple fun xs H Q => ∃ p ys, xs = [.ref p] ∧ ((SqL X.K H p ys ∧ ∀ l, H l = none → Q (.ref l) (upd H l (.tup ys))) ∨ (SqT X.K H p ys ∧ Q (.ref p) H)) := fun Z F H σ ρ vs ds Q S r r1 h k => by
  obtain ⟨d, rfl⟩ := bad1 h (by simp)
  obtain ⟨v, rfl, q0⟩ := one_of r
  have h : btuple d = .ok r1 := h
  unfold btuple at h
  split at h <;> cases h
  · obtain ⟨a, xs, rfl, h1, h2⟩ := q0.inv_lst
    exact ⟨a, xs, rfl, .inl ⟨SqL.of (S.fh _ _ h1), fun q hq => k _ _ _ (S.subT hq _) (S.newT hq _) (Rp.new_tup S hq h2)⟩⟩
  · obtain ⟨a, xs, rfl, h1, h2⟩ := q0.inv_tup
    exact ⟨a, xs, rfl, .inr ⟨SqT.sub S.fh h1, k _ F H (Sub.refl F) S (.tup h1 h2)⟩⟩
theorem ok_sum : BOk X cn .sum (rSum X.K) := fun Z F H σ ρ vs ds Q S r r1 h k => by
  obtain ⟨d, rfl⟩ := bad1 h (by simp)
  obtain ⟨v, rfl, q0⟩ := one_of r
  have h : bsum d = .ok r1 := h
  unfold bsum at h
  split at h
  · obtain ⟨a, xs, rfl, h1, h2⟩ := q0.inv_lst
    split at h <;> cases h
    rename_i hi
    have := intsD_of hi h2
    subst this
    exact ⟨a, _, rfl, SqL.of (S.fh _ _ h1), k _ F H (Sub.refl F) S (.int _)⟩
  · cases h
theorem ok_max : BOk X cn .max2 fun xs H Q => ∃ i j, xs = [.int i, .int j] ∧ Q (.int (if j > i then j else i)) H := fun Z F H σ ρ vs ds Q S r r1 h k => by
  obtain ⟨d, d', rfl⟩ := bad2 h (by simp)
  obtain ⟨v, v', rfl, q0, q1⟩ := two_of r
  have h : bmax d d' = .ok r1 := h
  unfold bmax at h
  split at h <;> cases h
  cases q0; cases q1
  exact ⟨_, _, rfl, k _ F H (Sub.refl F) S (.int _)⟩
theorem ok_min : BOk X cn .min2 fun xs H Q => ∃ i j, xs = [.int i, .int j] ∧ Q (.int (if j < i then j else i)) H := fun Z F H σ ρ vs ds Q S r r1 h k => by
  obtain ⟨d, d', rfl⟩ := bad2 h (by simp)
  obtain ⟨v, v', rfl, q0, q1⟩ := two_of r
  have h : bmin d d' = .ok r1 := h
  unfold bmin at h
  split at h <;> cases h
  cases q0; cases q1
  exact ⟨_, _, rfl, k _ F H (Sub.refl F) S (.int _)⟩
/-- len(x) of a name -/
theorem s_lenv {i : Nat} {x : Str} (hg : Gl X x) (hm : X.mg x = none) (hv : bootBuiltins x = some (.builtin "len")) (hn : x ≠ "__name__") (hdb : (x == ("__debug__" : Str)) = false) (ha : PE X e (tVar i))
    (he : starEach [e] X.env = [(false, eval e X.env)]) :
    PE X (.Call (.Name x p) [e] [] pos) (tE X.K cn W fun env => (pk env i).bind fun d => (blen d).bind fun r => .ok (r, env)) :=
  PE.weak (pe_callB call_len hg hm hv (pa_cons ha pa_nil he) hn hdb he rfl) fun σ H Q ⟨Z, F, ρ, S, q⟩ => by
    obtain ⟨d, h1, q1⟩ := Post.bind0 q (fun e => pk_noerr)
    obtain ⟨r1, h2, q2⟩ := Post.bind0 q1 (fun e => blen_noerr)
    obtain ⟨v, e1, r⟩ := pk_ok S h1
    exact ⟨v, e1, len_ok S r h2 fun v F' H' s' S' rr => q2 v F' H' s' S' rr⟩

/-! ### isinstance -/
def tyN : Ty → String
  | .int => "int" | .bool => "bool" | .str => "str" | .tuple => "tuple" | .list => "list"
def dTy : D → String
  | .non => "NoneType" | .bl _ => "bool" | .int _ => "int" | .str _ => "str" | .tup _ => "tuple" | .lst _ => "list" | _ => ""
theorem kit_isTy (d : D) (t : Ty) (h : tyOk d = true) : PySem.W.kitOne X.K (.type (dTy d)) (.type (tyN t)) = some (isTy d t) := by
  cases d <;> cases t <;> first | (simp [tyOk] at h; done) | exact kit_ty (by dsimp only [dTy, tyN, isTy]; decide +kernel)
theorem ty_of {F H : Hp} {v : V} {d : D} (s : Sub F H) (r : Rp X.K F v d) (h : tyOk d = true) : TyX X.K H v (.type (dTy d)) := by
  cases r with
  | non => exact .base .non
  | bl b => exact .base (.bl b)
  | int b => exact .base (.int b)
  | str b => exact .base (.str b)
  | tup h1 _ =>
    rcases h1 with (h1 | ⟨o, h1⟩) | ⟨o, its, n, h1, h2, _⟩
    · exact .base (.tup (s _ _ h1))
    · exact .fTuple (s _ _ h1)
    · exact .kTuple h1 h2
  | lst h1 _ => exact .base (.lst (s _ _ h1))
  | frz _ => simp [tyOk] at h
  | fn _ => simp [tyOk] at h
  | dic _ => simp [tyOk] at h
theorem s_isi1 {x y : Str} {t : Ty} {p' : Pos} (hg : Gl X x) (hm : X.mg x = none) (hv : bootBuiltins x = some (.builtin "isinstance")) (hn : x ≠ "__name__") (hdb : (x == ("__debug__" : Str)) = false)
    (ha : PE X a (tE X.K cn W f)) (hy : PE X (.Name y p') (tC (.ty (tyN t)))) (hs : starEach [a, .Name y p'] X.env = [(false, eval a X.env), (false, eval (.Name y p') X.env)]) :
    PE X (.Call (.Name x p) [a, .Name y p'] [] pos) (tE X.K cn W fun env => (f env).bind fun (x, env) => if tyOk x.d then .ok (.v (.bl ([t].any (isTy x.d))), env) else .bad) :=
  PE.weak (pe_callB call_isi hg hm hv (pa_cons ha (pa_cons hy pa_nil) hs) hn hdb hs rfl) fun σ H Q ⟨Z, F, ρ, S, q⟩ =>
    tE.seq S q fun r ρ1 v F1 H1 s1 S1 rx q1 => by
      dsimp only at q1
      split at q1
      · rename_i ht
        refine ⟨v, .ty (tyN t), _, _, _, rfl, .ty _, ty_of S1.fh rx ht, kit_isTy r.d t ht, ?_⟩
        have := q1 (.bl (isTy r.d t)) F1 H1 s1 S1
        simp only [List.any_cons, List.any_nil, Bool.or_false] at this
        exact this (.bl _)
      · exact q1.elim
end
end MP

end
section
set_option linter.all false
set_option Elab.async false
set_option maxRecDepth 100000
set_option maxHeartbeats 4000000
/-! Dicts of one's own (keys: tuples of numbers), tables with texts as keys. -/
namespace MP
open PySem PySem.Spec PyProof.Rows L2

section
variable {X : Cx} {cn : Program × World × Oa} {W : WX} {e a b c : Expr} {pos p apos : Pos} {f f' f'' : En → Out (R × En)} {C : CallF} {es : List Expr} {h : En → Out (List D × En)}

theorem inl_inj : ∀ {k q : List Int}, k.map (Sum.inl (β := Str)) = q.map Sum.inl → k = q
  | [], [], _ => rfl
  | [], _ :: _, h => by simp at h
  | _ :: _, [], h => by simp at h
  | x :: k, y :: q, h => by
    simp only [List.map_cons, List.cons.injEq] at h
    rw [Sum.inl.inj h.1, inl_inj h.2]
theorem inl_dec (p : List Key) (q k : List Int) (h : p = q.map Sum.inl) : decide (p = k.map Sum.inl) = decide (q = k) := by
  by_cases e : q = k
  · rw [decide_eq_true e, decide_eq_true (by rw [h, e])]
  · rw [decide_eq_false e, decide_eq_false (fun z => e (inl_inj (h.symm.trans z)))]
theorem kV_ints (k : List Int) : (k.map (Sum.inl (β := Str))).map kV = k.map V.int := by
  rw [List.map_map]; rfl
theorem KvL.ks {F H : Hp} {ws : List (List Key × Addr × Value)} {kvs : List (List Int × D)} (s : Sub F H) (r : KvL X.K F ws kvs) : MPS.KsOk X.K H ws := by
  intro x hx
  induction r with
  | nil => simp at hx
  | @cons p q ps qs h t ih =>
    rcases List.mem_cons.mp hx with rfl | hx
    · obtain ⟨z1, z2, _⟩ := h
      rw [z1, kV_ints]; exact SqT.sub s z2
    · exact ih hx
theorem atKey_nil (k : List Key) : atKey ([] : List (List Key × Addr × Value)) k = none := rfl
theorem atKey_cons (x : List Key × Addr × Value) (xs : List (List Key × Addr × Value)) (k : List Key) : atKey (x :: xs) k = if decide (x.1 = k) = true then some x.2 else atKey xs k := by
  unfold atKey
  rw [List.find?_cons]
  cases decide (x.1 = k) <;> rfl
theorem dlook_cons (x : List Int × D) (xs : List (List Int × D)) (k : List Int) : dlook (x :: xs) k = if decide (x.1 = k) = true then some x.2 else dlook xs k := by
  unfold dlook
  rw [List.find?_cons]
  cases decide (x.1 = k) <;> rfl
theorem KvL.look {F : Hp} {ws : List (List Key × Addr × Value)} {kvs : List (List Int × D)} (r : KvL X.K F ws kvs) (k : List Int) :
    (dlook kvs k = none → atKey ws (k.map Sum.inl) = none) ∧ ∀ d, dlook kvs k = some d → ∃ p v, atKey ws (k.map Sum.inl) = some p ∧ RelV v p.2 ∧ Rp X.K F v d := by
  induction r with
  | nil => exact ⟨fun _ => rfl, fun d h => by cases h⟩
  | @cons p q ps qs h t ih =>
    obtain ⟨h1, h2, v, h3, h4⟩ := h
    rw [dlook_cons, atKey_cons, inl_dec p.1 q.1 k h1]
    cases decide (q.1 = k) with
    | true =>
      rw [if_pos rfl, if_pos rfl]
      exact ⟨fun z => (by cases z), fun d z => ⟨p.2, v, rfl, h3, by cases z; exact h4⟩⟩
    | false =>
      rw [if_neg (by simp), if_neg (by simp)]
      exact ih
theorem any_dlook : ∀ (kvs : List (List Int × D)) (k : List Int), (kvs.any fun p => decide (p.1 = k)) = (dlook kvs k).isSome
  | [], _ => rfl
  | p :: r, k => by
    rw [List.any_cons, dlook_cons, any_dlook r k]
    cases decide (p.1 = k) <;> rfl
theorem KvL.any {F : Hp} {ws : List (List Key × Addr × Value)} {kvs : List (List Int × D)} (r : KvL X.K F ws kvs) (k : List Int) : (atKey ws (k.map Sum.inl)).isSome = kvs.any fun p => decide (p.1 = k) := by
  rw [any_dlook]
  cases e : dlook kvs k with
  | none => rw [(r.look k).1 e]; rfl
  | some d => obtain ⟨p, v, e1, _⟩ := (r.look k).2 d e; rw [e1]; rfl
theorem KvL.mapP {F : Hp} {ws : List (List Key × Addr × Value)} {kvs : List (List Int × D)} (r : KvL X.K F ws kvs) (k : List Int) {v : V} {u : Value} {d : D} (hr : RelV v u) (hv : Rp X.K F v d) :
    KvL X.K F (ws.map (putAt (k.map Sum.inl) u)) (kvs.map fun p => if p.1 = k then (p.1, d) else p) := by
  induction r with
  | nil => exact .nil
  | @cons p q ps qs h t ih =>
    rw [List.map_cons, List.map_cons]
    refine .cons ?_ ih
    obtain ⟨h1, h2, h3⟩ := h
    have e := inl_dec p.1 q.1 k h1
    unfold putAt
    by_cases z : q.1 = k
    · rw [if_pos z, if_pos (of_decide_eq_true (e.trans (decide_eq_true z)))]; exact ⟨h1, h2, v, hr, hv⟩
    · rw [if_neg z, if_neg (of_decide_eq_false (e.trans (decide_eq_false z)))]; exact ⟨h1, h2, h3⟩
theorem KvL.put {F : Hp} {ws : List (List Key × Addr × Value)} {kvs : List (List Int × D)} (r : KvL X.K F ws kvs) (k : List Int) {b : Addr} {v : V} {u : Value} {d : D} (hb : SqT X.K F b (k.map V.int)) (hr : RelV v u) (hv : Rp X.K F v d) :
    KvL X.K F (storedH ws (k.map Sum.inl) b u) (dput k d kvs) := by
  unfold storedH dput
  rw [r.any k]
  split
  · exact r.mapP k hr hv
  · exact Paired.snoc r ⟨rfl, hb, v, hr, hv⟩
theorem KvL.len {F : Hp} {ws : List (List Key × Addr × Value)} {kvs : List (List Int × D)} (r : KvL X.K F ws kvs) : ws.length = kvs.length := Paired.length r
theorem key_ok {F H : Hp} {v : V} {d : D} {k : List Int} (s : Sub F H) (r : Rp X.K F v d) (h : keyOf d = some k) : ∃ b, v = .ref b ∧ SqT X.K F b (k.map V.int) ∧ SqT X.K H b ((k.map (Sum.inl (β := Str))).map kV) := by
  unfold keyOf at h
  split at h
  · obtain ⟨a, xs, rfl, h1, h2⟩ := r.inv_tup
    have := intsD_of h h2
    subst this
    exact ⟨a, rfl, h1, by rw [kV_ints]; exact SqT.sub s h1⟩
  · cases h
theorem isOd_ok {Z F H : Hp} {σ : L2.St} {ρ : En} {i : Nat} (S : Sok X.K cn Z F H σ ρ) (h : isOd ρ i = true) : ∃ a ws, σ[i]? = some (some (.ref a)) ∧ H a = some (MPS.DTO cn.1 cn.2.1 a ws) := by
  unfold isOd at h
  split at h
  · rename_i kvs e
    obtain ⟨a, ws, e1, h1, _⟩ := S.od i kvs (get_some e (by intro h; cases h))
    exact ⟨a, ws, e1, h1⟩
  · cases h
/-- found[key] -/
theorem s_dix {i : Nat} {oa : Oa} (hcn : cn = (X.prog, X.w, oa)) (hu : X.A.units + 1 < cLine) (ha : PE X a (tVar i)) (hb : PE X b (tE X.K cn W f)) (hs : NoSl b) :
    PE X (.Subscript a b pos) (tE X.K cn W fun env => if !isOd env i then .bad else (f env).bind fun (y, env) => match get env i, keyOf y.d with
      | .od kvs, some k => (match dlook kvs k with | some d => .ok (.v d, env) | none => .bad)
      | _, _ => .bad) := by
  subst hcn
  exact PE.weak (MPS.pe_tget hu ha hb hs) fun σ H Q ⟨Z, F, ρ, S, q⟩ => by
    dsimp only at q
    split at q
    · exact q.elim
    · rename_i ho
      obtain ⟨a0, ws0, e1, _⟩ := isOd_ok S (by simpa using ho)
      refine ⟨_, e1, tE.seq S q fun r ρ1 v F1 H1 s1 S1 rx q1 => ?_⟩
      dsimp only at q1
      split at q1
      · rename_i kvs k e2 e3
        split at q1
        · rename_i d e4
          obtain ⟨a1, ws, e5, h1, h2, h3, h4⟩ := S1.od i kvs (get_some e2 (by intro h; cases h))
          rw [e1] at e5; cases e5
          obtain ⟨p', v', g1, gr, g2⟩ := (h2.look k).2 d e4
          obtain ⟨bb, rfl, g3, g4⟩ := key_ok S1.fh rx e3
          exact ⟨a0, bb, ws, _, p', v', rfl, rfl, h1, h2.ks S1.fh, g4, g1, gr, q1 v' F1 H1 s1 S1 g2⟩
        · exact q1.elim
      · exact q1.elim
/-- found.get(key, other) -/
theorem s_dget {i : Nat} {oa : Oa} (hcn : cn = (X.prog, X.w, oa)) (hu : X.A.units + 1 < cLine) (ho : PE X a (tVar i)) (hb : PE X b (tE X.K cn W f)) (hc : PE X c (tE X.K cn W f')) (m : M2 X a "get" apos b c pos) :
    PE X (.Call (.Attribute a "get" apos) [b, c] [] pos) (tE X.K cn W fun env => if !isOd env i then .bad else (f env).bind fun (x, env) => (f' env).bind fun (y, env) => match get env i, keyOf x.d with
      | .od kvs, some k => .ok (.v ((dlook kvs k).getD y.d), env)
      | _, _ => .bad) := by
  subst hcn
  exact PE.weak (MPS.pe_tget2 hu ho hb hc m) fun σ H Q ⟨Z, F, ρ, S, q⟩ => by
    dsimp only at q
    split at q
    · exact q.elim
    · rename_i ho
      obtain ⟨a0, ws0, e1, h0⟩ := isOd_ok S (by simpa using ho)
      refine ⟨_, e1, a0, rfl, ⟨ws0, h0⟩, tE.seq S q fun r ρ1 v F1 H1 s1 S1 rx q1 => tE.seq S1 q1 fun r2 ρ2 u F2 H2 s2 S2 ry q2 => ?_⟩
      dsimp only at q2
      split at q2
      · rename_i kvs k e2 e3
        obtain ⟨a1, ws, e5, h1, h2, h3, h4⟩ := S2.od i kvs (get_some e2 (by intro h; cases h))
        rw [e1] at e5; cases e5
        obtain ⟨bb, rfl, g3, g4⟩ := key_ok S2.fh (rx.sub s2) e3
        cases e4 : dlook kvs k with
        | none =>
          rw [e4] at q2
          exact ⟨bb, ws, _, u, rfl, h1, h2.ks S2.fh, g4, fun r hr => by rw [(h2.look k).1 e4]; exact hr, q2 u F2 H2 (s1.trans s2) S2 ry⟩
        | some d =>
          obtain ⟨p', v', g1, gr, g2⟩ := (h2.look k).2 d e4
          rw [e4] at q2
          exact ⟨bb, ws, _, v', rfl, h1, h2.ks S2.fh, g4, fun r hr => by rw [g1]; exact gr, q2 v' F2 H2 (s1.trans s2) S2 g2⟩
      · exact q2.elim
theorem KvL.keys {F : Hp} {ws : List (List Key × Addr × Value)} {kvs : List (List Int × D)} (r : KvL X.K F ws kvs) : RpL X.K F (ws.map fun x => V.ref x.2.1) (kvs.map fun p => .tup (p.1.map .int)) := by
  induction r with
  | nil => exact .nil
  | @cons p q ps qs h t ih =>
    obtain ⟨h1, h2, _⟩ := h
    exact .cons (.tup h2 (RpL.ints _)) ih
/-- list(found) -/
theorem s_dlist {i : Nat} {x : Str} {oa : Oa} (hcn : cn = (X.prog, X.w, oa)) (hcalm : X.calm = true) (hg : Gl X x) (hm : X.mg x = none) (hv : bootBuiltins x = some (.type "list")) (hn : x ≠ "__name__") (hdb : (x == ("__debug__" : Str)) = false) (ha : PE X e (tVar i))
    (he : starEach [e] X.env = [(false, eval e X.env)]) :
    PE X (.Call (.Name x p) [e] [] pos) (tE X.K cn W fun env => match get env i with
      | .od kvs => .ok (.o (kvs.map fun p => .tup (p.1.map .int)), env)
      | _ => .bad) := by
  subst hcn
  exact PE.weak (pe_callTy (MPS.cr_listT hcalm) hg hm hv (pa_cons ha pa_nil he) hn hdb he rfl) fun σ H Q ⟨Z, F, ρ, S, q⟩ => by
    dsimp only at q
    split at q
    · rename_i kvs e2
      obtain ⟨a1, ws, e5, h1, h2, h3, h4⟩ := S.od i kvs (get_some e2 (by intro h; cases h))
      exact ⟨_, e5, a1, ws, rfl, h1, fun p hp => q _ F _ (Sub.refl F) (S.new hp _) (RR.new_lst S hp h2.keys)⟩
    · exact q.elim
/-- t.get(x, y) of a table -/
theorem s_tget {o : Expr} (hu : X.A.units + 1 < cLine) (ho : PE X o (tE X.K cn W f)) (ha : PE X a (tE X.K cn W f')) (hb : PE X b (tE X.K cn W f'')) (m : M2 X o "get" apos a b pos) :
    PE X (.Call (.Attribute o "get" apos) [a, b] [] pos) (tE X.K cn W fun env => (f env).bind fun (t, env) => match t.d with
      | .dic kvs => (f' env).bind fun (x, env) => (f'' env).bind fun (y, env) => (match x.d with
        | .str z => .ok (.v (match look kvs z with | some n => .int n | none => y.d), env)
        | _ => .bad)
      | _ => .bad) :=
  PE.weak (pe_dget2 hu ho ha hb m) fun σ H Q ⟨Z, F, ρ, S, q⟩ =>
    tE.seq S q fun r0 ρ0 t F0 H0 s0 S0 rt q0 => by
      dsimp only at q0
      generalize r0.d = dd at rt q0
      cases rt <;> first | exact q0.elim | skip
      rename_i a0 kvs h0
      refine ⟨a0, rfl, .inl ⟨_, .inl (S0.fh _ _ h0)⟩, tE.seq S0 q0 fun r ρ1 v F1 H1 s1 S1 rx q1 => tE.seq S1 q1 fun r2 ρ2 u F2 H2 s2 S2 ry q2 => ?_⟩
      dsimp only at q2
      generalize r.d = d1 at rx q2
      cases rx <;> first | exact q2.elim | skip
      rename_i z
      dsimp only at q2
      refine ⟨_, dic_get (S2.fh _ _ (s2 _ _ (s1 _ _ h0))) z, ?_⟩
      cases e : look kvs z with
      | none => rw [e] at q2; exact q2 u F2 H2 ((s0.trans s1).trans s2) S2 ry
      | some n => rw [e] at q2; exact q2 _ F2 H2 ((s0.trans s1).trans s2) S2 (.int n)
end
end MP

end
section
set_option linter.all false
set_option Elab.async false
set_option maxRecDepth 100000
set_option maxHeartbeats 4000000
/-! What is walked; comprehensions. -/
namespace MP
open PySem PySem.Spec PyProof.Rows L2

section
variable {X : Cx} {cn : Program × World × Oa} {W : WX} {e a b c tg : Expr} {pos p apos : Pos} {f f' f'' : En → Out (R × En)} {C : CallF} {es : List Expr} {h : En → Out (List D × En)}

/-! ### sources -/
theorem wk_list {F0 : Hp} {q : Addr} {xs : List V} {ds : List D} (h1 : F0 q = some (.lst xs)) (h2 : RpL X.K F0 xs ds) : Wk X.K cn F0 (Itl X.K q) ds := by
  intro i Z F H σ ρ s S
  have hq : SqL X.K H q xs := SqL.of (S.fh _ _ (s _ _ h1))
  refine ⟨fun d hd => ?_, fun hd => ⟨xs, hq, by rw [h2.length]; exact List.getElem?_eq_none_iff.mp hd⟩⟩
  obtain ⟨v, g1, g2⟩ := h2.get hd
  refine ⟨⟨xs, v, hq, g1⟩, fun x H' hy => ?_⟩
  obtain ⟨rfl, hx⟩ := hy
  have := hx xs hq
  rw [g1] at this; cases this
  exact ⟨F, Sub.refl F, S, g2.sub s⟩
theorem wk_tup {F0 : Hp} {q : Addr} {xs : List V} {ds : List D} (h1 : SqT X.K F0 q xs) (h2 : RpL X.K F0 xs ds) : Wk X.K cn F0 (Itt X.K q) ds := by
  intro i Z F H σ ρ s S
  have hq : SqT X.K H q xs := SqT.sub S.fh (SqT.sub s h1)
  refine ⟨fun d hd => ?_, fun hd => ⟨xs, hq, by rw [h2.length]; exact List.getElem?_eq_none_iff.mp hd⟩⟩
  obtain ⟨v, g1, g2⟩ := h2.get hd
  refine ⟨⟨xs, v, hq, g1⟩, fun x H' hy => ?_⟩
  obtain ⟨rfl, hx⟩ := hy
  have := hx xs hq
  rw [g1] at this; cases this
  exact ⟨F, Sub.refl F, S, g2.sub s⟩
theorem rangeD_get : ∀ (n : Nat) (lo : Int) (i : Nat), (rangeD lo n)[i]? = if i < n then some (.int (lo + i)) else none
  | 0, lo, i => by simp [rangeD]
  | n + 1, lo, 0 => by simp [rangeD]
  | n + 1, lo, i + 1 => by
    rw [rangeD, List.getElem?_cons_succ, rangeD_get n (lo + 1) i]
    by_cases h : i < n
    · rw [if_pos h, if_pos (by omega)]; congr 2; omega
    · rw [if_neg h, if_neg (by omega)]
theorem rangeD_len : ∀ (n : Nat) (lo : Int), (rangeD lo n).length = n
  | 0, lo => rfl
  | n + 1, lo => by rw [rangeD, List.length_cons, rangeD_len n]
theorem wk_range {F0 : Hp} (lo : Int) (n : Nat) : Wk X.K cn F0 (Itr lo n) (rangeD lo n) := by
  intro i Z F H σ ρ s S
  rw [rangeD_get]
  constructor
  · intro d hd
    split at hd <;> cases hd
    rename_i hi
    exact ⟨hi, fun x H' hy => by obtain ⟨rfl, rfl⟩ := hy; exact ⟨F, Sub.refl F, S, .int _⟩⟩
  · intro hd
    split at hd
    · cases hd
    · rename_i hi; exact Nat.le_of_not_lt hi
theorem wk_str {F0 : Hp} (x : Str) : Wk X.K cn F0 (Its x) (x.cps.toList.map fun c => S [c]) := by
  intro i Z F H σ ρ s S
  rw [List.getElem?_map, Array.getElem?_toList]
  constructor
  · intro d hd
    cases e : x.cps[i]? with
    | none => rw [e] at hd; cases hd
    | some c =>
      rw [e] at hd; cases hd
      refine ⟨(Array.getElem?_eq_some_iff.mp e).1, fun x H' hy => ?_⟩
      obtain ⟨rfl, c', e', rfl⟩ := hy
      rw [e] at e'; cases e'
      exact ⟨F, Sub.refl F, S, .str _⟩
  · intro hd
    cases e : x.cps[i]? with
    | none => exact Array.getElem?_eq_none_iff.mp e
    | some c => rw [e] at hd; cases hd

/-- x in a for of a value: a list, a tuple, a text -/
theorem s_srcv (he : PE X e (tE X.K cn W f)) : PI X tg e (tI X.K cn W fun env => (f env).bind fun (x, env) => match items x.d with | some ds => .ok (ds, env) | none => .bad) := by
  refine ⟨fun pins s σ H R I ⟨Z, F, ρ, S, q⟩ => ?_⟩
  refine thn (he.run pins s σ H (fun x H1 => ∃ Z F1 ρ1 ds, Sok X.K cn Z F1 H1 σ ρ1 ∧ (∃ d, Rp X.K F1 x d ∧ items d = some ds) ∧ ∀ J, Wk X.K cn F1 J ds → ds.length ≤ sizeLine → R J H1) I (tE.seq S q fun r ρ1 v F1 H1 s1 S1 rx q1 => ?_)) fun v s1 ⟨x, H1, I1, r1, q1⟩ => ?_
  · dsimp only at q1
    split at q1
    · rename_i ds hd
      exact ⟨Z, F1, ρ1, ds, S1, ⟨r.d, rx, hd⟩, fun J w => q1 J F1 H1 s1 S1 w⟩
    · exact q1.elim
  · obtain ⟨Z, F1, ρ1, ds, S1, ⟨d, rx, hd⟩, q⟩ := q1
    unfold items at hd
    split at hd
    · cases hd
      obtain ⟨q1, xs, rfl, h1, h2⟩ := rx.inv_lst
      cases r1
      obtain ⟨its, rv, p, hz⟩ := I1.list (SqL.of (S1.fh _ _ h1))
      refine wpAny_pyIter_list p.isList ?_
      refine ⟨s1.heap.objs.size, [s1.heap.objs.size], _, _, H1, rfl, I1.kept (t' := s1.toks) fun b o e => Heap.get?_push_of_some _ e, turn_list q1 _, ⟨_, Heap.get?_push_size _ rfl, rfl, rfl⟩, fun b hb => ?_, q _ (wk_list h1 h2) (by rw [← h2.length]; exact hz)⟩
      have e : b = s1.heap.objs.size := by simpa using hb
      subst e
      exact I1.fpOk (Nat.le_refl _) (I1.hok.fresh (Nat.le_refl _))
    · cases hd
      obtain ⟨q1, xs, rfl, h1, h2⟩ := rx.inv_tup
      cases r1
      obtain ⟨its, rv, p, hz⟩ := I1.tuple (SqT.sub S1.fh h1)
      refine wpAny_pyIter_tuple (show s1.heap.IsTuple q1 its.toArray from p) ?_
      refine ⟨s1.heap.objs.size, [s1.heap.objs.size], _, _, H1, rfl, I1.kept (t' := s1.toks) fun b o e => Heap.get?_push_of_some _ e, turn_tuple q1 _, ⟨_, Heap.get?_push_size _ rfl, rfl, rfl⟩, fun b hb => ?_, q _ (wk_tup h1 h2) (by rw [← h2.length]; exact hz)⟩
      have e : b = s1.heap.objs.size := by simpa using hb
      subst e
      exact I1.fpOk (Nat.le_refl _) (I1.hok.fresh (Nat.le_refl _))
    · split at hd <;> cases hd
      rename_i x hl
      cases rx
      obtain ⟨t, rfl⟩ := r1
      have q' := q _ (wk_str x) (by rw [List.length_map, Array.length_toList, ← line_eq]; exact hl)
      cases ha : x.cps.all (· < 128)
      · exact wpAny_pyIter_wide ha (pi_one (tk := s1.toks) I1 _ (turn_str _ x t "str_iterator" (.inr rfl)) ⟨_, Heap.get?_push_size _ rfl, rfl, rfl⟩ q')
      · exact wpAny_pyIter_ascii ha (pi_one (tk := s1.toks) I1 _ (turn_str _ x t "str_ascii_iterator" (.inl rfl)) ⟨_, Heap.get?_push_size _ rfl, rfl, rfl⟩ q')
    · cases hd
theorem rOk_of {i : Int} (h : rOk i = true) : -(2 ^ 22) ≤ i ∧ i < 2 ^ 22 := by
  unfold rOk at h
  simp only [Bool.and_eq_true, decide_eq_true_eq] at h
  exact h
theorem s_r1 (hg : Gl X "range") (hm : X.mg "range" = none) (ha : PE X a (tE X.K cn W f)) (hs : starEach [a] X.env = [(false, eval a X.env)]) :
    PI X tg (.Call (.Name "range" p) [a] [] pos) (tI X.K cn W fun env => (f env).bind fun (x, env) => match x.d with | .int i => if rOk i then .ok (rangeD 0 i.toNat, env) else .bad | _ => .bad) :=
  PI.weak (pi_range1 hg hm (pa_cons ha pa_nil hs) hs) fun σ H R ⟨Z, F, ρ, S, q⟩ => tE.seq S q fun r ρ1 v F1 H1 s1 S1 rx q1 => by
    dsimp only at q1
    generalize r.d = dd at rx q1
    cases rx <;> first | exact q1.elim | skip
    rename_i i
    dsimp only at q1
    split at q1
    · rename_i hr
      have hr := rOk_of hr
      exact ⟨i, rfl, by omega, by omega, q1 _ F1 H1 s1 S1 (wk_range 0 i.toNat) (by rw [rangeD_len, sizeLine_eq]; omega)⟩
    · exact q1.elim
theorem s_r2 (hg : Gl X "range") (hm : X.mg "range" = none) (ha : PE X a (tE X.K cn W f)) (hb : PE X b (tE X.K cn W f')) (hs : starEach [a, b] X.env = [(false, eval a X.env), (false, eval b X.env)]) (hs2 : starEach [b] X.env = [(false, eval b X.env)]) :
    PI X tg (.Call (.Name "range" p) [a, b] [] pos) (tI X.K cn W fun env => (f env).bind fun (x, env) => (f' env).bind fun (y, env) => match x.d, y.d with | .int i, .int j => if rOk i && rOk j then .ok (rangeD i (j - i).toNat, env) else .bad | _, _ => .bad) :=
  PI.weak (pi_range2 hg hm (pa_cons ha (pa_cons hb pa_nil hs2) (by rw [hs, hs2])) hs hs2) fun σ H R ⟨Z, F, ρ, S, q⟩ => tE.seq S q fun r ρ1 v F1 H1 s1 S1 rx q1 => tE.seq S1 q1 fun r2 ρ2 u F2 H2 s2 S2 ry q2 => by
    dsimp only at q2
    generalize r.d = dd at rx q2
    generalize r2.d = d2 at ry q2
    cases rx <;> first | exact q2.elim | skip
    cases ry <;> first | exact q2.elim | skip
    rename_i i j
    dsimp only at q2
    split at q2
    · rename_i hr
      simp only [Bool.and_eq_true] at hr
      have h1 := rOk_of hr.1
      have h2 := rOk_of hr.2
      exact ⟨i, j, rfl, ⟨by omega, by omega, by omega, by omega⟩, q2 _ F2 H2 (s1.trans s2) S2 (wk_range i _) (by rw [rangeD_len, sizeLine_eq]; omega)⟩
    · exact q2.elim

/-! ### targets -/
def tG (K : PySem.W.Frag) (cn : Program × World × Oa) (t : Tg) : TG := fun v σ H Q => ∃ Z F ρ d ρ', Sok K cn Z F H σ ρ ∧ Rp K F v d ∧ put t d ρ = .ok ρ' ∧
  ∀ σ', Sok K cn Z F H σ' ρ' → (∀ j, j ∉ tgs t → σ'[j]? = σ[j]?) → σ'.length = σ.length → Q σ' H
theorem getElem?_set_cases {α : Type} {l : List α} {i j : Nat} {u s : α} (h : (l.set i u)[j]? = some s) : (j = i ∧ s = u) ∨ (j ≠ i ∧ l[j]? = some s) := by
  by_cases q : j = i
  · subst q
    by_cases hl : j < l.length
    · rw [List.getElem?_set_self hl] at h
      exact .inl ⟨rfl, (Option.some.inj h).symm⟩
    · rw [List.getElem?_eq_none (by rw [List.length_set]; omega)] at h; cases h
  · rw [List.getElem?_set_ne (Ne.symm q)] at h
    exact .inr ⟨q, h⟩
/-- data goes to a slot that owns nothing -/
theorem Sok.setF {Z F H : Hp} {σ : L2.St} {ρ : En} {i : Nat} {v : V} {d : D} (S : Sok X.K cn Z F H σ ρ) (r : Rp X.K F v d) (h0 : 0 < i) (hi : i < ρ.length) : Sok X.K cn Z F H (σ.set i (some v)) (ρ.set i (.fz d)) := by
  have own : ∀ {j : Nat} {q : Addr}, OwnAt (σ.set i (some v)) (ρ.set i (.fz d)) j q → j ≠ i ∧ OwnAt σ ρ j q := fun {j q} ho => by
    obtain ⟨g1, ⟨es, g2⟩ | ⟨ks, g2⟩⟩ := ho
    · rcases getElem?_set_cases g2 with ⟨_, z⟩ | ⟨z1, z2⟩
      · cases z
      · rw [List.getElem?_set_ne (Ne.symm z1)] at g1
        exact ⟨z1, g1, .inl ⟨es, z2⟩⟩
    · rcases getElem?_set_cases g2 with ⟨_, z⟩ | ⟨z1, z2⟩
      · cases z
      · rw [List.getElem?_set_ne (Ne.symm z1)] at g1
        exact ⟨z1, g1, .inr ⟨ks, z2⟩⟩
  exact {
    tb := S.tb
    fh := S.fh
    zh := S.zh
    zf := S.zf
    zt := S.zt
    len := by rw [List.length_set, List.length_set]; exact S.len
    fz := fun j d' h => by
      rcases getElem?_set_cases h with ⟨rfl, z⟩ | ⟨z1, z2⟩
      · cases z; exact ⟨v, List.getElem?_set_self (by rw [S.len]; exact hi), r⟩
      · rw [List.getElem?_set_ne (Ne.symm z1)]; exact S.fz j d' z2
    ow := fun j d' h => by
      rcases getElem?_set_cases h with ⟨rfl, z⟩ | ⟨z1, z2⟩
      · cases z
      · rw [List.getElem?_set_ne (Ne.symm z1)]; exact S.ow j d' z2
    od := fun j d' h => by
      rcases getElem?_set_cases h with ⟨rfl, z⟩ | ⟨z1, z2⟩
      · cases z
      · rw [List.getElem?_set_ne (Ne.symm z1)]; exact S.od j d' z2
    dj := fun j l q hj hl => S.dj j l q (own hj).2 (own hl).2
    p0 := fun a h => by rw [List.getElem?_set_ne (by omega)]; exact S.p0 a h }
theorem s_nm {i : Nat} {x : Str} (hN : X.N.Nodup) (hi : X.N[i]? = some x) (hx : Loc X.env.scope x) (hf : X.fn x = true ∨ X.env.scope.names.lookup x = some .local) : PG X (.Name x pos) (tG X.K cn (.nm i)) := by
  refine ⟨fun pins s σ H v u Q I r ⟨Z, F, ρ, d, ρ', S, rd, hp, q⟩ => (pg_name hN hi hx hf).run pins s σ H v u Q I r ?_⟩
  unfold put at hp
  split at hp <;> cases hp
  rename_i hl
  refine q _ (S.setF rd hl.1 hl.2) (fun j hj => ?_) (by rw [List.length_set])
  rw [List.getElem?_set_ne (by intro e; exact hj (by simp [tgs, e]))]
theorem bind_ok {α β : Type} {o : Out α} {g : α → Out β} {b : β} (h : o.bind g = .ok b) : ∃ a, o = .ok a ∧ g a = .ok b := by
  cases o with
  | ok a => exact ⟨a, rfl, h⟩
  | err _ => cases h
  | bad => cases h
theorem put_keep : ∀ {t : Tg} {d : D} {ρ ρ' : En}, put t d ρ = .ok ρ' → ρ'.length = ρ.length ∧ (∀ j, j ∉ tgs t → ρ'[j]? = ρ[j]?) ∧ ∀ (j : Nat) s, ρ'[j]? = some s → (∃ d, s = .fz d) ∨ ρ[j]? = some s
  | .nm i, d, ρ, ρ', h => by
    unfold put at h
    split at h <;> cases h
    exact ⟨List.length_set, fun j hj => List.getElem?_set_ne (by intro e; exact hj (by simp [tgs, e])), fun j s hj => by
      rcases getElem?_set_cases hj with ⟨_, z⟩ | ⟨_, z⟩
      · exact .inl ⟨d, z⟩
      · exact .inr z⟩
  | .tp2 a b, d, ρ, ρ', h => by
    unfold put at h
    split at h
    · obtain ⟨ρ1, e1, e2⟩ := bind_ok h
      obtain ⟨l1, k1, m1⟩ := put_keep e1
      obtain ⟨l2, k2, m2⟩ := put_keep e2
      refine ⟨l2.trans l1, fun j hj => ?_, fun j s hj => ?_⟩
      · simp only [tgs, List.mem_append, not_or] at hj
        rw [k2 j hj.2, k1 j hj.1]
      · rcases m2 j s hj with z | z
        · exact .inl z
        · exact m1 j s z
    · cases h
  | .tp3 a b c, d, ρ, ρ', h => by
    unfold put at h
    split at h
    · obtain ⟨ρ1, e1, e2⟩ := bind_ok h
      obtain ⟨ρ2, e2, e3⟩ := bind_ok e2
      obtain ⟨l1, k1, m1⟩ := put_keep e1
      obtain ⟨l2, k2, m2⟩ := put_keep e2
      obtain ⟨l3, k3, m3⟩ := put_keep e3
      refine ⟨l3.trans (l2.trans l1), fun j hj => ?_, fun j s hj => ?_⟩
      · simp only [tgs, List.mem_append, not_or] at hj
        rw [k3 j hj.2, k2 j hj.1.2, k1 j hj.1.1]
      · rcases m3 j s hj with z | z
        · exact .inl z
        · rcases m2 j s z with z | z
          · exact .inl z
          · exact m1 j s z
    · cases h
theorem un2_ok {F : Hp} {v : V} {d x y : D} (r : Rp X.K F v d) (h : un2 d = some (x, y)) : ∃ a v1 v2, v = .ref a ∧ SqT X.K F a [v1, v2] ∧ Rp X.K F v1 x ∧ Rp X.K F v2 y := by
  unfold un2 at h
  split at h <;> cases h
  obtain ⟨a, xs, rfl, h1, h2⟩ := r.inv_tup
  obtain ⟨v1, v2, rfl, r1, r2⟩ := two_of h2
  exact ⟨a, v1, v2, rfl, h1, r1, r2⟩
theorem un3_ok {F : Hp} {v : V} {d x y z : D} (r : Rp X.K F v d) (h : un3 d = some (x, y, z)) : ∃ a v1 v2 v3, v = .ref a ∧ SqT X.K F a [v1, v2, v3] ∧ Rp X.K F v1 x ∧ Rp X.K F v2 y ∧ Rp X.K F v3 z := by
  unfold un3 at h
  split at h <;> cases h
  obtain ⟨a, xs, rfl, h1, h2⟩ := r.inv_tup
  cases h2 with
  | cons r1 h2 =>
    obtain ⟨v2, v3, rfl, r2, r3⟩ := two_of h2
    exact ⟨a, _, v2, v3, rfl, h1, r1, r2, r3⟩
theorem s_tp2 {t u : Tg} {k : Nat} (hc : X.calm = true) (ha : PG X a (tG X.K cn t)) (hb : PG X b (tG X.K cn u))
    (h2 : (assignEach [b] X.env).map (·.2) = assign b X.env :: (assignEach [] X.env).map (·.2)) (h1 : (assignEach [a, b] X.env).map (·.2) = assign a X.env :: (assignEach [b] X.env).map (·.2))
    (hn : (assignEach [a, b] X.env).length = 2) (hst : (assignEach [a, b] X.env).findIdx? (·.1) = none) : PG X (.Tuple [a, b] k pos) (tG X.K cn (.tp2 t u)) := by
  refine ⟨fun pins s σ H v w Q I r ⟨Z, F, ρ, d, ρ', S, rd, hp, q⟩ => (pg_tup (k := k) (n := 2) hc (pgs_cons ha (pgs_cons hb pgs_nil h2) h1) hn hst).run pins s σ H v w Q I r ?_⟩
  unfold put at hp
  split at hp
  · rename_i x y e
    obtain ⟨q0, v1, v2, rfl, g1, r1, r2⟩ := un2_ok rd e
    obtain ⟨ρ1, e1, e2⟩ := bind_ok hp
    refine ⟨q0, [v1, v2], rfl, SqT.sub S.fh g1, rfl, v1, [v2], rfl, Z, F, ρ, x, ρ1, S, r1, e1, fun σ1 S1 k2 l2 => ?_⟩
    refine ⟨v2, [], rfl, Z, F, ρ1, y, ρ', S1, r2, e2, fun σ2 S2 k3 l3 => ⟨rfl, q σ2 S2 (fun j hj => ?_) (l3.trans l2)⟩⟩
    simp only [tgs, List.mem_append, not_or] at hj
    rw [k3 j hj.2, k2 j hj.1]
  · cases hp
theorem s_tp3 {t u t3 : Tg} {k : Nat} (hc : X.calm = true) (ha : PG X a (tG X.K cn t)) (hb : PG X b (tG X.K cn u)) (hd : PG X c (tG X.K cn t3))
    (h3 : (assignEach [c] X.env).map (·.2) = assign c X.env :: (assignEach [] X.env).map (·.2)) (h2 : (assignEach [b, c] X.env).map (·.2) = assign b X.env :: (assignEach [c] X.env).map (·.2)) (h1 : (assignEach [a, b, c] X.env).map (·.2) = assign a X.env :: (assignEach [b, c] X.env).map (·.2))
    (hn : (assignEach [a, b, c] X.env).length = 3) (hst : (assignEach [a, b, c] X.env).findIdx? (·.1) = none) : PG X (.Tuple [a, b, c] k pos) (tG X.K cn (.tp3 t u t3)) := by
  refine ⟨fun pins s σ H v w Q I r ⟨Z, F, ρ, d, ρ', S, rd, hp, q⟩ => (pg_tup (k := k) (n := 3) hc (pgs_cons ha (pgs_cons hb (pgs_cons hd pgs_nil h3) h2) h1) hn hst).run pins s σ H v w Q I r ?_⟩
  unfold put at hp
  split at hp
  · rename_i x y z e
    obtain ⟨q0, v1, v2, v3, rfl, g1, r1, r2, r3⟩ := un3_ok rd e
    obtain ⟨ρ1, e1, e2⟩ := bind_ok hp
    obtain ⟨ρ2, e2, e3⟩ := bind_ok e2
    refine ⟨q0, [v1, v2, v3], rfl, SqT.sub S.fh g1, rfl, v1, [v2, v3], rfl, Z, F, ρ, x, ρ1, S, r1, e1, fun σ1 S1 k5 l5 => ?_⟩
    refine ⟨v2, [v3], rfl, Z, F, ρ1, y, ρ2, S1, r2, e2, fun σ2 S2 k6 l6 => ?_⟩
    refine ⟨v3, [], rfl, Z, F, ρ2, z, ρ', S2, r3, e3, fun σ3 S3 k7 l7 => ⟨rfl, q σ3 S3 (fun j hj => ?_) (l7.trans (l6.trans l5))⟩⟩
    simp only [tgs, List.mem_append, not_or] at hj
    rw [k7 j hj.2, k6 j hj.1.2, k5 j hj.1.1]
  · cases hp

/-! ### comprehensions -/
theorem wipes_len : ∀ (ρ : En) (vs : List Nat), (wipes ρ vs).length = ρ.length
  | _, [] => rfl
  | ρ, i :: r => by show ((wipes ρ r).set i .un).length = _; rw [List.length_set, wipes_len ρ r]
theorem wipes_get {ρ : En} {vs : List Nat} {j : Nat} {s : Sl} (h : (wipes ρ vs)[j]? = some s) : (j ∈ vs ∧ s = .un) ∨ (j ∉ vs ∧ ρ[j]? = some s) := by
  induction vs generalizing s with
  | nil => exact .inr ⟨by simp, h⟩
  | cons i r ih =>
    rcases getElem?_set_cases (show ((wipes ρ r).set i .un)[j]? = some s from h) with ⟨rfl, z⟩ | ⟨z1, z2⟩
    · exact .inl ⟨by simp, z⟩
    · rcases ih z2 with ⟨a, b⟩ | ⟨a, b⟩
      · exact .inl ⟨List.mem_cons_of_mem _ a, b⟩
      · exact .inr ⟨by simp [z1, a], b⟩
theorem wipe_get {σ : L2.St} {vs : List Nat} {j : Nat} (h : j ∉ vs) : (wipe σ vs)[j]? = σ[j]? := wipe_out h
theorem Sok.wiped {Z F H : Hp} {σ : L2.St} {ρ : En} {vs : List Nat} (S : Sok X.K cn Z F H σ ρ) (h0 : 0 ∉ vs) : Sok X.K cn Z F H (wipe σ vs) (wipes ρ vs) := by
  have own : ∀ {j : Nat} {q : Addr}, OwnAt (wipe σ vs) (wipes ρ vs) j q → OwnAt σ ρ j q := fun {j q} ho => by
    obtain ⟨g1, ⟨es, g2⟩ | ⟨ks, g2⟩⟩ := ho
    · rcases wipes_get g2 with ⟨_, z⟩ | ⟨z1, z2⟩
      · cases z
      · exact ⟨by rw [← wipe_get z1]; exact g1, .inl ⟨es, z2⟩⟩
    · rcases wipes_get g2 with ⟨_, z⟩ | ⟨z1, z2⟩
      · cases z
      · exact ⟨by rw [← wipe_get z1]; exact g1, .inr ⟨ks, z2⟩⟩
  exact {
    tb := S.tb
    fh := S.fh
    zh := S.zh
    zf := S.zf
    zt := S.zt
    len := by rw [wipe_length, wipes_len]; exact S.len
    fz := fun j d h => by
      rcases wipes_get h with ⟨_, z⟩ | ⟨z1, z2⟩
      · cases z
      · rw [wipe_get z1]; exact S.fz j d z2
    ow := fun j d h => by
      rcases wipes_get h with ⟨_, z⟩ | ⟨z1, z2⟩
      · cases z
      · rw [wipe_get z1]; exact S.ow j d z2
    od := fun j d h => by
      rcases wipes_get h with ⟨_, z⟩ | ⟨z1, z2⟩
      · cases z
      · rw [wipe_get z1]; exact S.od j d z2
    dj := fun j l q hj hl => S.dj j l q (own hj) (own hl)
    p0 := fun a h => by rw [wipe_get h0]; exact S.p0 a h }
theorem list_ext_get {α : Type} {l m : List α} (h : ∀ i : Nat, l[i]? = m[i]?) : l = m := List.ext_getElem? h
theorem wipe_in {σ : L2.St} {vs : List Nat} {j : Nat} (h : j ∈ vs) (hl : j < σ.length) : (wipe σ vs)[j]? = some none := by
  induction vs with
  | nil => simp at h
  | cons i r ih =>
    show ((wipe σ r).set i none)[j]? = _
    by_cases q : j = i
    · subst q; rw [List.getElem?_set_self (by rw [wipe_length]; exact hl)]
    · rw [List.getElem?_set_ne (Ne.symm q)]
      exact ih (by simpa [q] using h)
theorem wipe_ext {σ τ : L2.St} {vs : List Nat} (hl : τ.length = σ.length) (h : ∀ j : Nat, j ∉ vs → τ[j]? = σ[j]?) : wipe τ vs = wipe σ vs := by
  apply list_ext_get
  intro j
  by_cases q : j ∈ vs
  · by_cases z : j < σ.length
    · rw [wipe_in q z, wipe_in q (by rw [hl]; exact z)]
    · rw [List.getElem?_eq_none (by rw [wipe_length]; omega), List.getElem?_eq_none (by rw [wipe_length]; omega)]
  · rw [wipe_get q, wipe_get q, h j q]
theorem wipe_idem {σ : L2.St} {vs : List Nat} : wipe (wipe σ vs) vs = wipe σ vs := wipe_ext (wipe_length _ _) fun _ h => wipe_get h
theorem back_len : ∀ (ρ0 ρ : En) (vs : List Nat), (back ρ0 ρ vs).length = ρ.length
  | _, _, [] => rfl
  | ρ0, ρ, i :: r => by show ((back ρ0 ρ r).set i _).length = _; rw [List.length_set, back_len ρ0 ρ r]
theorem back_get {ρ0 ρ : En} {vs : List Nat} {j : Nat} {s : Sl} (h : (back ρ0 ρ vs)[j]? = some s) : (j ∈ vs ∧ s = get ρ0 j) ∨ (j ∉ vs ∧ ρ[j]? = some s) := by
  induction vs generalizing s with
  | nil => exact .inr ⟨by simp, h⟩
  | cons i r ih =>
    rcases getElem?_set_cases (show ((back ρ0 ρ r).set i (get ρ0 i))[j]? = some s from h) with ⟨rfl, z⟩ | ⟨z1, z2⟩
    · exact .inl ⟨by simp, z⟩
    · rcases ih z2 with ⟨a, b⟩ | ⟨a, b⟩
      · exact .inl ⟨List.mem_cons_of_mem _ a, b⟩
      · exact .inr ⟨by simp [z1, a], b⟩
theorem noOwn_at {ρ : En} {vs : List Nat} (h : noOwn ρ vs = true) {j : Nat} (hj : j ∈ vs) : get ρ j = .un ∨ ∃ d, get ρ j = .fz d := by
  unfold noOwn at h
  rw [List.all_eq_true] at h
  have := h j hj
  rw [Bool.and_eq_true] at this
  have this := this.2
  split at this
  · rename_i d e; exact .inr ⟨d, e⟩
  · rename_i e; exact .inl e
  · cases this
theorem noOwn_0 {ρ : En} {vs : List Nat} (h : noOwn ρ vs = true) : 0 ∉ vs := fun hm => by
  unfold noOwn at h
  rw [List.all_eq_true] at h
  have := h 0 hm
  simp at this
/-- behind a comprehension -/
theorem Sok.backed {Z F F1 H H1 : Hp} {σ : L2.St} {ρ1 ρ2 : En} {vs : List Nat} (S1 : Sok X.K cn Z F1 H1 σ ρ1) (s : Sub F1 F) (no : noOwn ρ1 vs = true) (S : Sok X.K cn Z F H (wipe σ vs) (wipes ρ2 vs)) : Sok X.K cn Z F H σ (back ρ1 ρ2 vs) := by
  have out : ∀ {j : Nat} {s : Sl}, j ∉ vs → ρ2[j]? = some s → (wipes ρ2 vs)[j]? = some s := fun {j s} hj h => by
    have hlt : j < (wipes ρ2 vs).length := by rw [wipes_len]; exact (List.getElem?_eq_some_iff.mp h).1
    rcases wipes_get (List.getElem?_eq_getElem hlt) with ⟨a, _⟩ | ⟨_, b⟩
    · exact absurd a hj
    · rw [h] at b; rw [List.getElem?_eq_getElem hlt]; exact congrArg some (Option.some.inj b).symm
  have own : ∀ {j : Nat} {q : Addr}, OwnAt σ (back ρ1 ρ2 vs) j q → OwnAt (wipe σ vs) (wipes ρ2 vs) j q := fun {j q} ho => by
    obtain ⟨g1, ⟨es, g2⟩ | ⟨ks, g2⟩⟩ := ho
    · rcases back_get g2 with ⟨z1, z⟩ | ⟨z1, z2⟩
      · rcases noOwn_at no z1 with e | ⟨d, e⟩ <;> rw [e] at z <;> cases z
      · exact ⟨by rw [wipe_get z1]; exact g1, .inl ⟨es, out z1 z2⟩⟩
    · rcases back_get g2 with ⟨z1, z⟩ | ⟨z1, z2⟩
      · rcases noOwn_at no z1 with e | ⟨d, e⟩ <;> rw [e] at z <;> cases z
      · exact ⟨by rw [wipe_get z1]; exact g1, .inr ⟨ks, out z1 z2⟩⟩
  exact {
    tb := S.tb
    fh := S.fh
    zh := S.zh
    zf := S.zf
    zt := S.zt
    len := by rw [back_len, ← wipes_len ρ2 vs, ← S.len, wipe_length]
    fz := fun j d h => by
      rcases back_get h with ⟨z1, z⟩ | ⟨z1, z2⟩
      · obtain ⟨v, e, r⟩ := S1.fz j d (get_some z.symm (by intro h; cases h)); exact ⟨v, e, r.sub s⟩
      · obtain ⟨v, e, r⟩ := S.fz j d (out z1 z2); exact ⟨v, by rw [← wipe_get z1]; exact e, r⟩
    ow := fun j d h => by
      rcases back_get h with ⟨z1, z⟩ | ⟨z1, z2⟩
      · rcases noOwn_at no z1 with e | ⟨d, e⟩ <;> rw [e] at z <;> cases z
      · obtain ⟨a, xs, e, r⟩ := S.ow j d (out z1 z2); exact ⟨a, xs, by rw [← wipe_get z1]; exact e, r⟩
    od := fun j d h => by
      rcases back_get h with ⟨z1, z⟩ | ⟨z1, z2⟩
      · rcases noOwn_at no z1 with e | ⟨d, e⟩ <;> rw [e] at z <;> cases z
      · obtain ⟨a, xs, e, r⟩ := S.od j d (out z1 z2); exact ⟨a, xs, by rw [← wipe_get z1]; exact e, r⟩
    dj := fun j l q hj hl => S.dj j l q (own hj) (own hl)
    p0 := S1.p0 }
/-- an object that is set apart, changed -/
theorem Sok.apart {Z F H : Hp} {σ : L2.St} {ρ : En} {p : Addr} {xs ys : List V} (S : Sok X.K cn (L2.upd Z p (.lst xs)) F H σ ρ) (hz : Z p = none) : Sok X.K cn (L2.upd Z p (.lst ys)) F (L2.upd H p (.lst ys)) σ ρ := by
  have fp : F p = none := S.zf p (by rw [upd_same]; intro z; cases z)
  have ne : ∀ {a : Addr}, L2.upd Z p (.lst xs) a = none → a ≠ p := fun {a} h e => by rw [e, upd_same] at h; cases h
  have zn : ∀ {a : Addr}, L2.upd Z p (.lst xs) a = none → L2.upd Z p (.lst ys) a = none := fun {a} h => by have e := ne h; rw [upd_ne e] at h; rw [upd_ne e]; exact h
  have hpl : H p = some (.lst xs) := S.zh p _ upd_same
  exact {
    tb := fun t ht => let ⟨x, y, z⟩ := S.tb t ht; ⟨tabS_keep x hpl (fun _ z => by cases z) fun _ => lst_not_code, y, zn z⟩
    fh := S.fh.updR fp _
    zh := fun a o h => by
      by_cases e : a = p
      · subst e; rw [upd_same] at h ⊢; exact h
      · rw [upd_ne e] at h ⊢; exact S.zh a o (by rw [upd_ne e]; exact h)
    zf := fun a h => S.zf a fun z => h (zn z)
    zt := fun a l h => by
      by_cases e : a = p
      · subst e; rw [upd_same] at h; cases h
      · rw [upd_ne e] at h; exact S.zt a l (by rw [upd_ne e]; exact h)
    len := S.len
    fz := S.fz
    ow := fun i ds h => let ⟨a, ws, e, h1, h2, h3, h4⟩ := S.ow i ds h; ⟨a, ws, e, by rw [upd_ne (ne h4)]; exact h1, h2, h3, zn h4⟩
    od := fun i ds h => let ⟨a, ws, e, h1, h2, h3, h4⟩ := S.od i ds h; ⟨a, ws, e, by rw [upd_ne (ne h4)]; exact h1, h2, h3, zn h4⟩
    dj := S.dj
    p0 := S.p0 }
/-- .. no longer -/
theorem Sok.join {Z F H : Hp} {σ : L2.St} {ρ : En} {p : Addr} {xs : List V} (S : Sok X.K cn (L2.upd Z p (.lst xs)) F H σ ρ) (hz : Z p = none) : Sok X.K cn Z F H σ ρ ∧ H p = some (.lst xs) ∧ F p = none ∧ ∀ i, ¬ OwnAt σ ρ i p := by
  have fp : F p = none := S.zf p (by rw [upd_same]; intro z; cases z)
  have sz : Sub Z (L2.upd Z p (.lst xs)) := Sub.new hz _
  have S' : Sok X.K cn Z F H σ ρ := {
    tb := fun t ht => let ⟨x, y, z⟩ := S.tb t ht; ⟨x, y, sz.none z⟩
    fh := S.fh
    zh := sz.trans S.zh
    zf := fun a h => S.zf a (fun z => h (sz.none z))
    zt := fun a l h => S.zt a l (sz a _ h)
    len := S.len
    fz := S.fz
    ow := fun i ds h => let ⟨a, ws, e, h1, h2, h3, h4⟩ := S.ow i ds h; ⟨a, ws, e, h1, h2, h3, sz.none h4⟩
    od := fun i ds h => let ⟨a, ws, e, h1, h2, h3, h4⟩ := S.od i ds h; ⟨a, ws, e, h1, h2, h3, sz.none h4⟩
    dj := S.dj
    p0 := S.p0 }
  refine ⟨S', S.zh p _ upd_same, fp, fun i o => ?_⟩
  have := (S.own_there o).2.2
  rw [upd_same] at this; cases this
/-- a new object is set apart -/
theorem Sok.part {Z F H : Hp} {σ : L2.St} {ρ : En} {p : Addr} {xs : List V} (S : Sok X.K cn Z F H σ ρ) (hp : H p = none) : Sok X.K cn (L2.upd Z p (.lst xs)) F (L2.upd H p (.lst xs)) σ ρ where
  tb := fun t ht => let ⟨x, y, z⟩ := S.tb t ht; ⟨tabS_upd hp x, y, by
    rw [upd_ne (fun e => by
      obtain ⟨ps, h, _⟩ := x
      rw [e, hp] at h; cases h)]
    exact z⟩
  fh := S.fh.updR (S.fnone hp) _
  zh := S.zh.upd p _
  zf := fun a h => by
    by_cases e : a = p
    · rw [e]; exact S.fnone hp
    · rw [upd_ne e] at h; exact S.zf a h
  zt := fun a l h => by
    by_cases e : a = p
    · subst e; rw [upd_same] at h; cases h
    · rw [upd_ne e] at h; exact S.zt a l h
  len := S.len
  fz := S.fz
  ow := fun i ds h => let ⟨a, ws, e, h1, h2, h3, h4⟩ := S.ow i ds h; ⟨a, ws, e, upd_of hp h1, h2, h3, by rw [upd_ne (ne_of_none h1 hp)]; exact h4⟩
  od := fun i ds h => let ⟨a, ws, e, h1, h2, h3, h4⟩ := S.od i ds h; ⟨a, ws, e, upd_of hp h1, h2, h3, by rw [upd_ne (ne_of_none h1 hp)]; exact h4⟩
  dj := S.dj
  p0 := S.p0
theorem noErr_ok {α : Type} {o : Out α} {a : α} (h : noErr o = .ok a) : o = .ok a := by cases o <;> first | exact h | cases h
theorem PTs.weak {X : Cx} {e : List Expr} {t t' : TT} (h : PTs X e t) (w : ∀ σ H Q, t' σ H Q → t σ H Q) : PTs X e t' := ⟨fun pins s σ H Q I q => h.run pins s σ H Q I (w σ H Q q)⟩
abbrev W0 : WX := fun _ _ _ _ => False
theorem s_comp {elt iter : Expr} {ifs : List Expr} {scope : Scope} {own : List (Str × Nat)} {t : Tg} {fs : En → Out (List D × En)} {fc : En → Out (Bool × En)} {fe : En → Out (R × En)}
    (hc : X.calm = true) (hN : X.N.Nodup) (hi : PI X tg iter (tI X.K cn W fs)) (ok : BlkOk X.N X.env.scope scope own) (ht : ∀ i ∈ tgs t, i ∈ own.map (·.2))
    (hg : ∀ (s : Shared) (H : Hp) (C : Addr) (cl : List (Str × Addr)) (fp : List Addr), PG (X.blk s H scope (compEnvC scope cl C X.env) fp) tg (tG X.K cn t))
    (hcd : ∀ (s : Shared) (H : Hp) (C : Addr) (cl : List (Str × Addr)) (fp : List Addr), PTs (X.blk s H scope (compEnvC scope cl C X.env) fp) ifs (tT X.K cn W0 fc))
    (he : ∀ (s : Shared) (H : Hp) (C : Addr) (cl : List (Str × Addr)) (fp : List Addr), PE (X.blk s H scope (compEnvC scope cl C X.env) fp) elt (tE X.K cn W0 fe)) 
    {σ : L2.St} {H : Hp} {Q : VK} (hh : tE X.K cn W (fun env => (fs env).bind fun (ds, env1) => if noOwn env1 (own.map (·.2)) then
      (noErr (loopC (fun d env => (put t d (wipes env (own.map (·.2)))).bind fun env => (fc env).bind fun (b, env) =>
        if b then (fe env).bind fun (x, env) => .ok (some x.d, env) else .ok (none, env)) ds env1 [])).bind fun (acc, env2) => .ok (.o acc, back env1 env2 (own.map (·.2))) else .bad) σ H Q) :
    tLc (tI X.K cn W fs) (tG X.K cn t) (tT X.K cn W0 fc) (tE X.K cn W0 fe) (own.map (·.2)) σ H Q := by
  obtain ⟨Z, F, ρ, S, q⟩ := hh
  refine ⟨Z, F, ρ, S, (Post.bind q).imp (fun ds ρ1 q1 J F1 H1 s1 S1 wk hlen => ?_) fun _ h => h⟩
  dsimp only at q1
  intro D hD
  split at q1
  case isFalse => exact q1.elim
  rename_i no
  cases e1 : noErr (loopC (fun d env => (put t d (wipes env (own.map (·.2)))).bind fun env => (fc env).bind fun (b, env) =>
        if b then (fe env).bind fun (x, env) => .ok (some x.d, env) else .ok (none, env)) ds ρ1 []) with
  | bad => rw [e1] at q1; exact q1.elim
  | err _ => exfalso; revert e1; cases loopC _ ds ρ1 [] <;> simp [noErr]
  | ok pr =>
  obtain ⟨accF, ρF⟩ := pr
  rw [e1] at q1
  have e2 := noErr_ok e1
  have zD : Z D = none := S1.znone hD
  refine ⟨fun i m H => m = ds.length - i ∧ i ≤ ds.length ∧ ∃ F2 ρi acc xs, Sub F1 F2 ∧ Sok X.K cn (L2.upd Z D (.lst xs)) F2 H (wipe σ (own.map (·.2))) (wipes ρi (own.map (·.2))) ∧ RpL X.K F2 xs acc ∧ acc.length ≤ i ∧
    loopC (fun d env => (put t d (wipes env (own.map (·.2)))).bind fun env => (fc env).bind fun (b, env) =>
        if b then (fe env).bind fun (x, env) => .ok (some x.d, env) else .ok (none, env)) (ds.drop i) ρi acc = .ok (accF, ρF), ⟨_, rfl, Nat.zero_le _, F1, ρ1, [], [], Sub.refl F1, (S1.part hD).wiped (noOwn_0 no), .nil, Nat.le_refl _, by simpa using e2⟩, ?_⟩
  rintro i m H' ⟨hm, hile, F2, ρi, acc, xs, s2, S2, r2, hal, hloop⟩
  have wki := wk i (L2.upd Z D (.lst xs)) F2 H' (wipe σ (own.map (·.2))) (wipes ρi (own.map (·.2))) s2 S2
  cases hd : ds[i]? with
  | none =>
    left
    refine ⟨wki.2 hd, ?_⟩
    have hge := List.getElem?_eq_none_iff.mp hd
    rw [List.drop_eq_nil_of_le hge] at hloop
    cases hloop
    obtain ⟨S3, hD3, fD, no3⟩ := (S1.backed (H := H') s2 no (S2.join zD).1 : Sok X.K cn Z F2 H' σ _) |> fun S3 => (⟨S3, (S2.join zD).2.1, (S2.join zD).2.2.1, (S2.join zD).2.2.2⟩ : _ ∧ _ ∧ _ ∧ _)
    refine q1 _ F2 H' (s1.trans s2) S3 ⟨D, xs, rfl, hD3, r2, fD, zD, fun j o => ?_⟩
    obtain ⟨g1, g2⟩ := o
    have key : ∀ {s : Sl}, (back ρ1 ρF (own.map (·.2)))[j]? = some s → (∃ ds, s = .ow ds) ∨ (∃ k, s = .od k) → OwnAt (wipe σ (own.map (·.2))) (wipes ρF (own.map (·.2))) j D := fun {s} g gs => by
      rcases back_get g with ⟨z1, z⟩ | ⟨z1, z2⟩
      · rcases noOwn_at no z1 with e | ⟨d, e⟩ <;> rw [e] at z <;> rcases gs with ⟨_, y⟩ | ⟨_, y⟩ <;> rw [z] at y <;> cases y
      · have hlt : j < (wipes ρF (own.map (·.2))).length := by rw [wipes_len]; exact (List.getElem?_eq_some_iff.mp z2).1
        have hw : (wipes ρF (own.map (·.2)))[j]? = some s := by
          rcases wipes_get (List.getElem?_eq_getElem hlt) with ⟨a, _⟩ | ⟨_, b⟩
          · exact absurd a z1
          · rw [z2] at b; rw [List.getElem?_eq_getElem hlt]; exact congrArg some (Option.some.inj b).symm
        refine ⟨by rw [wipe_get z1]; exact g1, ?_⟩
        rcases gs with ⟨y, rfl⟩ | ⟨y, rfl⟩
        · exact .inl ⟨y, hw⟩
        · exact .inr ⟨y, hw⟩
    rcases g2 with ⟨y, g2⟩ | ⟨y, g2⟩
    · exact no3 j (key g2 (.inl ⟨y, rfl⟩))
    · exact no3 j (key g2 (.inr ⟨y, rfl⟩))
  | some d =>
    right
    have hlt : i < ds.length := (List.getElem?_eq_some_iff.mp hd).1
    obtain ⟨go, yl⟩ := wki.1 d hd
    refine ⟨go, fun H3 => ∃ m', m' < m ∧ (fun i m H => m = ds.length - i ∧ i ≤ ds.length ∧ ∃ F2 ρi acc xs, Sub F1 F2 ∧ Sok X.K cn (L2.upd Z D (.lst xs)) F2 H (wipe σ (own.map (·.2))) (wipes ρi (own.map (·.2))) ∧ RpL X.K F2 xs acc ∧ acc.length ≤ i ∧
      loopC (fun d env => (put t d (wipes env (own.map (·.2)))).bind fun env => (fc env).bind fun (b, env) =>
        if b then (fe env).bind fun (x, env) => .ok (some x.d, env) else .ok (none, env)) (ds.drop i) ρi acc = .ok (accF, ρF)) (i + 1) m' H3, fun _ h => h, fun x H3 hy => ?_⟩
    obtain ⟨F3, s3, S3, rx⟩ := yl x H3 hy
    have hdrop : ds.drop i = d :: ds.drop (i + 1) := by
      rw [List.drop_eq_getElem_cons hlt]
      rw [List.getElem?_eq_getElem hlt] at hd
      rw [Option.some.inj hd]
    rw [hdrop] at hloop
    unfold loopC at hloop
    obtain ⟨⟨o, ρ5⟩, e5, hloop⟩ := bind_ok hloop
    obtain ⟨ρ3, e3, e5⟩ := bind_ok e5
    obtain ⟨⟨b, ρ4⟩, e4, e5⟩ := bind_ok e5
    refine ⟨_, F3, _, d, ρ3, S3, rx, e3, fun σ4 S4 k4 l4 => ⟨?_, ?_⟩⟩
    · rw [wipe_ext (l4.trans rfl) (fun j hj => k4 j (fun hm => hj (ht j hm))), wipe_idem]
    · have hw4 : wipe σ4 (own.map (·.2)) = wipe σ (own.map (·.2)) := by rw [wipe_ext (l4.trans rfl) (fun j hj => k4 j (fun hm => hj (ht j hm))), wipe_idem]
      refine ⟨_, F3, ρ3, S4, ?_⟩
      rw [e4]
      intro F4 H4 s4 S5
      dsimp only at e5
      cases b with
      | false =>
        rw [if_neg (by simp)] at e5 ⊢
        cases e5
        refine ⟨ds.length - (i + 1), by omega, rfl, hlt, F4, _, acc, xs, ((s2.trans s3).trans s4), ?_, r2.sub (s3.trans s4), by omega, hloop⟩
        have := S5.wiped (vs := own.map (·.2)) (noOwn_0 no)
        rw [hw4] at this; exact this
      | true =>
        rw [if_pos rfl] at e5 ⊢
        obtain ⟨⟨x5, ρ6⟩, e6, e5⟩ := bind_ok e5
        cases e5
        refine ⟨_, F4, _, S5, ?_⟩
        rw [e6]
        intro v F5 H5 s5 S6 rr
        obtain ⟨F6, s6, S7, r6⟩ := S6.data rr
        refine ⟨xs, S7.zh D _ upd_same, ?_, ?_⟩
        · rw [r2.length]; omega
        · have s36 := (s3.trans s4).trans (s5.trans s6)
          refine ⟨ds.length - (i + 1), by omega, rfl, hlt, F6, ρ6, acc ++ [x5.d], xs ++ [v], s2.trans s36, ?_, (r2.sub s36).append (.cons r6 .nil), by rw [List.length_append]; simp; omega, hloop⟩
          have := (S7.apart (ys := xs ++ [v]) zD).wiped (vs := own.map (·.2)) (noOwn_0 no)
          rw [hw4] at this; exact this
end
end MP

end
section
set_option linter.all false
set_option Elab.async false
set_option maxRecDepth 100000
set_option maxHeartbeats 4000000
/-! Statements. -/
namespace MP
open PySem PySem.Spec PyProof.Rows L2

section
variable (K : PySem.W.Frag) (cn : Program × World × Oa)
def PS0 (Z F : Hp) (D : Ends) (fl : Fl) (ρ' : En) : Prop := match fl with
  | .nx => ∀ σ' F' H', Sub F F' → Sok K cn Z F' H' σ' ρ' → D.nx σ' H'
  | .rt r => ∀ v σ' F' H', Sub F F' → Sok K cn Z F' H' σ' ρ' → RR K Z F' H' σ' ρ' v r → D.rt v H'
def tS (W : WX) (f : En → Out (Fl × En)) : TS := fun D σ H => ∃ Z F ρ, Sok K cn Z F H σ ρ ∧ Post (f ρ) (PS0 K cn Z F D) (fun e => ∀ σ', EE K cn Z F W σ' e)
end
section
variable {X : Cx} {cn : Program × World × Oa} {W : WX} {e a b c tg : Expr} {pos p apos : Pos} {f f' f'' : En → Out (R × En)} {es : List Expr} {h : En → Out (List D × En)} {st : Stmt} {sts sts' : List Stmt} {g g' : En → Out (Fl × En)} {t : En → Out (Bool × En)}
theorem PS0.sub {Z F F1 : Hp} {D : Ends} {fl : Fl} {ρ : En} (s : Sub F F1) (h : PS0 X.K cn Z F D fl ρ) : PS0 X.K cn Z F1 D fl ρ := by
  cases fl with
  | nx => exact fun σ' F' H' s' S' => h σ' F' H' (s.trans s') S'
  | rt r => exact fun v σ' F' H' s' S' rr => h v σ' F' H' (s.trans s') S' rr
/-- go on from a later state -/
theorem tS.later {Z F F1 H1 : Hp} {σ : L2.St} {ρ1 : En} {D : Ends} (s : Sub F F1) (S : Sok X.K cn Z F1 H1 σ ρ1) (q : Post (g ρ1) (PS0 X.K cn Z F D) (fun e => ∀ σ', EE X.K cn Z F W σ' e)) : tS X.K cn W g D σ H1 :=
  ⟨Z, F1, ρ1, S, q.imp (fun fl ρ h => h.sub s) fun e h σ' => (h σ').sub s⟩
/-- an expression, then what comes of what it gave (a new list may be it) -/
theorem tE.step {k : R × En → Out (Fl × En)} {Z F H : Hp} {σ : L2.St} {ρ : En} {D : Ends} (S : Sok X.K cn Z F H σ ρ) (q : Post ((f ρ).bind k) (PS0 X.K cn Z F D) (fun e => ∀ σ', EE X.K cn Z F W σ' e)) {Q : VK}
    (n : ∀ r ρ1 v F1 H1, Sub F F1 → Sok X.K cn Z F1 H1 σ ρ1 → RR X.K Z F1 H1 σ ρ1 v r → Post (k (r, ρ1)) (PS0 X.K cn Z F D) (fun e => ∀ σ', EE X.K cn Z F W σ' e) → Q v H1) : tE X.K cn W f σ H Q :=
  ⟨Z, F, ρ, S, (Post.bind q).imp (fun r ρ1 h v F1 H1 s1 S1 rr => n r ρ1 v F1 H1 s1 S1 rr h) fun e h => h σ⟩
/-- .. as data -/
theorem tE.stepD {k : R × En → Out (Fl × En)} {Z F H : Hp} {σ : L2.St} {ρ : En} {D : Ends} (S : Sok X.K cn Z F H σ ρ) (q : Post ((f ρ).bind k) (PS0 X.K cn Z F D) (fun e => ∀ σ', EE X.K cn Z F W σ' e)) {Q : VK}
    (n : ∀ r ρ1 v F1 H1, Sub F F1 → Sok X.K cn Z F1 H1 σ ρ1 → Rp X.K F1 v r.d → Post (k (r, ρ1)) (PS0 X.K cn Z F D) (fun e => ∀ σ', EE X.K cn Z F W σ' e) → Q v H1) : tE X.K cn W f σ H Q :=
  tE.step S q fun r ρ1 v F1 H1 s1 S1 rr q1 => by
    obtain ⟨F2, s2, S2, r2⟩ := S1.data rr
    exact n r ρ1 v F2 H1 (s1.trans s2) S2 r2 q1
theorem s_snil : PSs X [] (tS X.K cn W fun env => .ok (.nx, env)) := PSs.weak pss_nil fun D σ H ⟨Z, F, ρ, S, q⟩ => q σ F H (Sub.refl F) S
theorem s_scons (h1 : PS X st (tS X.K cn W g)) (h2 : PSs X sts (tS X.K cn W g')) : PSs X (st :: sts) (tS X.K cn W fun env => (g env).bind fun (f, env) => match f with
      | .nx => g' env
      | .rt r => .ok (.rt r, env)) :=
  PSs.weak (pss_cons h1 h2) fun D σ H ⟨Z, F, ρ, S, q⟩ => ⟨Z, F, ρ, S, (Post.bind q).imp (fun fl ρ1 q1 => by
    cases fl with
    | nx => exact fun σ' F' H' s' S' => tS.later s' S' q1
    | rt r => exact q1) fun _ h => h⟩
theorem s_sone (h1 : PS X st (tS X.K cn W g)) : PSs X [st] (tS X.K cn W fun env => (g env).bind fun (f, env) => match f with
      | .nx => .ok (.nx, env)
      | .rt r => .ok (.rt r, env)) :=
  PSs.weak (pss_one h1) fun D σ H ⟨Z, F, ρ, S, q⟩ => ⟨Z, F, ρ, S, (Post.bind q).imp (fun fl ρ1 q1 => by
    cases fl with
    | nx => exact q1
    | rt r => exact q1) fun _ h => h⟩
theorem s_pass : PS X (.Pass pos) (tS X.K cn W fun env => .ok (.nx, env)) := PS.weak ps_pass fun D σ H ⟨Z, F, ρ, S, q⟩ => q σ F H (Sub.refl F) S
theorem s_expr (he : PE X e (tE X.K cn W f)) (hs : swapsWith e none pos.line X.env = pure false) : PS X (.Expr e pos) (tS X.K cn W fun env => (f env).bind fun (_, env) => .ok (.nx, env)) :=
  PS.weak (ps_expr he hs) fun D σ H ⟨Z, F, ρ, S, q⟩ => tE.step S q fun r ρ1 v F1 H1 s1 S1 rr q1 => q1 σ F1 H1 s1 S1
theorem s_ret (he : PE X e (tE X.K cn W f)) : PS X (.Return (some e) pos) (tS X.K cn W fun env => (f env).bind fun (r, env) => .ok (.rt r, env)) :=
  PS.weak (ps_ret he) fun D σ H ⟨Z, F, ρ, S, q⟩ => tE.step S q fun r ρ1 v F1 H1 s1 S1 rr q1 => q1 v σ F1 H1 s1 S1 rr
theorem s_retn : PS X (.Return none pos) (tS X.K cn W fun env => .ok (.rt (.v .non), env)) :=
  PS.weak ps_retN fun D σ H ⟨Z, F, ρ, S, q⟩ => q .non σ F H (Sub.refl F) S .non
/-- a slot is emptied -/
theorem Sok.drop {Z F H : Hp} {σ : L2.St} {ρ : En} {i : Nat} (S : Sok X.K cn Z F H σ ρ) : Sok X.K cn Z F H σ (ρ.set i .un) := by
  have own : ∀ {j : Nat} {q : Addr}, OwnAt σ (ρ.set i .un) j q → OwnAt σ ρ j q := fun {j q} ho => by
    obtain ⟨g1, ⟨es, g2⟩ | ⟨ks, g2⟩⟩ := ho
    · rcases getElem?_set_cases g2 with ⟨_, z⟩ | ⟨_, z2⟩
      · cases z
      · exact ⟨g1, .inl ⟨es, z2⟩⟩
    · rcases getElem?_set_cases g2 with ⟨_, z⟩ | ⟨_, z2⟩
      · cases z
      · exact ⟨g1, .inr ⟨ks, z2⟩⟩
  exact {
    tb := S.tb
    fh := S.fh
    zh := S.zh
    zf := S.zf
    zt := S.zt
    len := by rw [List.length_set]; exact S.len
    fz := fun j d h => by
      rcases getElem?_set_cases h with ⟨_, z⟩ | ⟨_, z⟩
      · cases z
      · exact S.fz j d z
    ow := fun j d h => by
      rcases getElem?_set_cases h with ⟨_, z⟩ | ⟨_, z⟩
      · cases z
      · exact S.ow j d z
    od := fun j d h => by
      rcases getElem?_set_cases h with ⟨_, z⟩ | ⟨_, z⟩
      · cases z
      · exact S.od j d z
    dj := fun j l q hj hl => S.dj j l q (own hj) (own hl)
    p0 := S.p0 }
theorem s_retv {i : Nat} (he : PE X e (tVar i)) : PS X (.Return (some e) pos) (tS X.K cn W fun env => match get env i with
      | .fz d => .ok (.rt (.v d), env)
      | .ow ds => .ok (.rt (.o ds), env.set i .un)
      | _ => .bad) :=
  PS.weak (ps_ret he) fun D σ H ⟨Z, F, ρ, S, q⟩ => by
    dsimp only at q
    split at q
    · rename_i d e
      obtain ⟨v, e1, r⟩ := S.fz i d (get_some e (by intro h; cases h))
      exact ⟨v, e1, q v σ F H (Sub.refl F) S r⟩
    · rename_i ds e
      have e0 := get_some e (by intro h; cases h)
      obtain ⟨q0, xs, e1, h1, h2, h3, h4⟩ := S.ow i ds e0
      refine ⟨_, e1, q _ σ F H (Sub.refl F) S.drop ⟨q0, xs, rfl, h1, h2, h3, h4, fun j o => ?_⟩⟩
      have o' : j ≠ i ∧ OwnAt σ ρ j q0 := by
        obtain ⟨g1, ⟨es, g2⟩ | ⟨ks, g2⟩⟩ := o
        · rcases getElem?_set_cases g2 with ⟨_, z⟩ | ⟨z1, z2⟩
          · cases z
          · exact ⟨z1, g1, .inl ⟨es, z2⟩⟩
        · rcases getElem?_set_cases g2 with ⟨_, z⟩ | ⟨z1, z2⟩
          · cases z
          · exact ⟨z1, g1, .inr ⟨ks, z2⟩⟩
      exact o'.1 (S.dj j i q0 o'.2 ⟨e1, .inl ⟨ds, e0⟩⟩)
    · exact q.elim

/-! ### stores -/
theorem Sok.setO {Z F H : Hp} {σ : L2.St} {ρ : En} {i : Nat} {v : V} {ds : List D} (S : Sok X.K cn Z F H σ ρ) (r : RR X.K Z F H σ ρ v (.o ds)) (h0 : 0 < i) (hi : i < ρ.length) : Sok X.K cn Z F H (σ.set i (some v)) (ρ.set i (.ow ds)) := by
  obtain ⟨a, xs, rfl, h1, h2, h3, h4, h5⟩ := r
  have own : ∀ {j : Nat} {q : Addr}, OwnAt (σ.set i (some (.ref a))) (ρ.set i (.ow ds)) j q → (j = i ∧ q = a) ∨ (j ≠ i ∧ OwnAt σ ρ j q) := fun {j q} ho => by
    obtain ⟨g1, g2⟩ := ho
    by_cases z : j = i
    · subst z
      rw [List.getElem?_set_self (by rw [S.len]; exact hi)] at g1
      cases g1; exact .inl ⟨rfl, rfl⟩
    · rw [List.getElem?_set_ne (Ne.symm z)] at g1
      refine .inr ⟨z, g1, ?_⟩
      rw [List.getElem?_set_ne (Ne.symm z)] at g2
      exact g2
  exact {
    tb := S.tb
    fh := S.fh
    zh := S.zh
    zf := S.zf
    zt := S.zt
    len := by rw [List.length_set, List.length_set]; exact S.len
    fz := fun j d' h => by
      rcases getElem?_set_cases h with ⟨rfl, z⟩ | ⟨z1, z2⟩
      · cases z
      · rw [List.getElem?_set_ne (Ne.symm z1)]; exact S.fz j d' z2
    ow := fun j d' h => by
      rcases getElem?_set_cases h with ⟨rfl, z⟩ | ⟨z1, z2⟩
      · cases z; exact ⟨a, xs, List.getElem?_set_self (by rw [S.len]; exact hi), h1, h2, h3, h4⟩
      · rw [List.getElem?_set_ne (Ne.symm z1)]; exact S.ow j d' z2
    od := fun j d' h => by
      rcases getElem?_set_cases h with ⟨rfl, z⟩ | ⟨z1, z2⟩
      · cases z
      · rw [List.getElem?_set_ne (Ne.symm z1)]; exact S.od j d' z2
    dj := fun j l q hj hl => by
      rcases own hj with ⟨rfl, e1⟩ | ⟨z1, o1⟩ <;> rcases own hl with ⟨rfl, e2⟩ | ⟨z2, o2⟩
      · rfl
      · exact absurd (e1 ▸ o2) (h5 l)
      · exact absurd (e2 ▸ o1) (h5 j)
      · exact S.dj j l q o1 o2
    p0 := fun a h => by rw [List.getElem?_set_ne (by omega)]; exact S.p0 a h }
theorem store_ok' {Z F H : Hp} {σ : L2.St} {ρ ρ' : En} {i : Nat} {own : Bool} {v : V} {r : R} (S : Sok X.K cn Z F H σ ρ) (rr : RR X.K Z F H σ ρ v r) (h : store i own r ρ = .ok ρ') : ∃ F', Sub F F' ∧ Sok X.K cn Z F' H (σ.set i (some v)) ρ' := by
  unfold store at h
  split at h
  · rename_i hi
    split at h
    · split at h <;> cases h
      exact ⟨F, Sub.refl F, S.setO rr hi.1 hi.2⟩
    · split at h <;> cases h
      · obtain ⟨F2, s2, S2, r2⟩ := S.data rr
        exact ⟨F2, s2, S2.setF r2 hi.1 hi.2⟩
      · exact ⟨F, Sub.refl F, S.setF rr hi.1 hi.2⟩
  · cases h
theorem store_noerr {i : Nat} {own : Bool} {r : R} {ρ : En} {e : Ex} : store i own r ρ ≠ .err e := by
  unfold store; split <;> (try split) <;> (try split) <;> intro h <;> cases h
theorem s_asg {i : Nat} {own : Bool} {x : Str} {p' : Pos} (hp : PS X (.Assign [.Name x p'] e pos) (tAsg (tE X.K cn W f) (gName i))) :
    PS X (.Assign [.Name x p'] e pos) (tS X.K cn W fun env => (f env).bind fun (r, env) => (store i own r env).bind fun env => .ok (.nx, env)) :=
  PS.weak hp fun D σ H ⟨Z, F, ρ, S, q⟩ => tE.step S q fun r ρ1 v F1 H1 s1 S1 rr q1 => by
    obtain ⟨ρ2, e2, q2⟩ := Post.bind0 q1 (fun e => store_noerr)
    obtain ⟨F2, s2, S2⟩ := store_ok' S1 rr e2
    exact q2 _ F2 H1 (s1.trans s2) S2
theorem put_noerr : ∀ {t : Tg} {d : D} {ρ : En} {e : Ex}, put t d ρ ≠ .err e
  | .nm i, d, ρ, e => by unfold put; split <;> intro h <;> cases h
  | .tp2 a b, d, ρ, e => by
    unfold put
    split
    · rename_i x y _
      cases h : put a x ρ with
      | ok ρ1 => exact put_noerr
      | err e' => exact absurd h put_noerr
      | bad => intro h; cases h
    · intro h; cases h
  | .tp3 a b c, d, ρ, e => by
    unfold put
    split
    · rename_i x y z _
      cases h : put a x ρ with
      | ok ρ1 =>
        show (put b y ρ1).bind _ ≠ _
        cases h : put b y ρ1 with
        | ok ρ2 => exact put_noerr
        | err e' => exact absurd h put_noerr
        | bad => intro h; cases h
      | err e' => exact absurd h put_noerr
      | bad => intro h; cases h
    · intro h; cases h
theorem s_asgt {u : Tg} (he : PE X e (tE X.K cn W f)) (hg : PG X tg (tG X.K cn u)) (hs : swapsWithSole [tg] e pos.line X.env = pure false) (hw : swappedStores [tg] e X.env = pure none)
    (h1 : (assignEach [tg] X.env).map (·.2) = [assign tg X.env]) : PS X (.Assign [tg] e pos) (tS X.K cn W fun env => (f env).bind fun (r, env) => (put u r.d env).bind fun env => .ok (.nx, env)) :=
  PS.weak (ps_asg he hg hs hw h1) fun D σ H ⟨Z, F, ρ, S, q⟩ => tE.stepD S q fun r ρ1 v F1 H1 s1 S1 rd q1 => by
    obtain ⟨ρ2, e2, q2⟩ := Post.bind0 q1 (fun e => put_noerr)
    exact ⟨Z, F1, ρ1, r.d, ρ2, S1, rd, e2, fun σ' S' _ _ => q2 σ' F1 H1 s1 S'⟩
/-- a list of one's own is changed -/
theorem Sok.chg {Z F H : Hp} {σ : L2.St} {ρ : En} {i : Nat} {q0 : Addr} {ds es : List D} {ys : List V} (S : Sok X.K cn Z F H σ ρ) (hi : σ[i]? = some (some (.ref q0))) (ho : ρ[i]? = some (.ow ds)) (r : RpL X.K F ys es) :
    Sok X.K cn Z F (L2.upd H q0 (.lst ys)) σ (ρ.set i (.ow es)) := by
  obtain ⟨a', xs, e1, h1, h2, h3, h4⟩ := S.ow i ds ho
  rw [hi] at e1; cases e1
  have oi : OwnAt σ ρ i q0 := ⟨hi, .inl ⟨ds, ho⟩⟩
  exact {
    tb := fun t ht => let ⟨x, y, z⟩ := S.tb t ht; ⟨tabS_keep x h1 (fun _ z => by cases z) fun _ => lst_not_code, y, z⟩
    fh := S.fh.updR h3 _
    zh := S.zh.updR h4 _
    zf := S.zf
    zt := S.zt
    len := by rw [List.length_set]; exact S.len
    fz := fun j d' h => by
      rcases getElem?_set_cases h with ⟨_, z⟩ | ⟨_, z2⟩
      · cases z
      · exact S.fz j d' z2
    ow := fun j d' h => by
      rcases getElem?_set_cases h with ⟨rfl, z⟩ | ⟨z1, z2⟩
      · cases z; exact ⟨q0, ys, hi, upd_same, r, h3, h4⟩
      · obtain ⟨b, ws, g1, g2, g3, g4, g5⟩ := S.ow j d' z2
        exact ⟨b, ws, g1, by rw [upd_ne (fun (z : b = q0) => z1 (S.dj j i q0 ⟨by rw [g1, z], .inl ⟨_, z2⟩⟩ oi))]; exact g2, g3, g4, g5⟩
    od := fun j d' h => by
      rcases getElem?_set_cases h with ⟨rfl, z⟩ | ⟨z1, z2⟩
      · cases z
      · obtain ⟨b, ws, g1, g2, g3, g4, g5⟩ := S.od j d' z2
        exact ⟨b, ws, g1, by rw [upd_ne (fun (z : b = q0) => z1 (S.dj j i q0 ⟨by rw [g1, z], .inr ⟨_, z2⟩⟩ oi))]; exact g2, g3, g4, g5⟩
    dj := fun j l b hj hl => S.dj j l b (own_set hj ⟨ds, ho⟩) (own_set hl ⟨ds, ho⟩)
    p0 := S.p0 }
/-- x.append(e) -/
theorem s_app {i : Nat} {o : Expr} (hx : PS X st (tDrop (tBM X.K "list" rAppend (tVar i) (tCons (tE X.K cn W f) tNil)))) :
    PS X st (tS X.K cn W fun env => match get env i with
      | .ow _ => (f env).bind fun (r, env) => (match get env i with
        | .ow ds => if ds.length < line then .ok (.nx, env.set i (.ow (ds ++ [r.d]))) else .bad
        | _ => .bad)
      | _ => .bad) :=
  PS.weak hx fun D σ H ⟨Z, F, ρ, S, q⟩ => by
    dsimp only at q
    split at q
    · rename_i ds0 e0
      obtain ⟨a0, xs0, e1, h0, _⟩ := S.ow i ds0 (get_some e0 (by intro h; cases h))
      refine ⟨_, e1, .inl ⟨rfl, xs0, SqL.of h0⟩, ?_⟩
      refine tE.stepD S q fun r ρ1 v F1 H1 s1 S1 rd q1 => ?_
      dsimp only at q1
      split at q1
      · rename_i ds e2
        split at q1
        · rename_i hl
          have e3 := get_some e2 (by intro h; cases h)
          obtain ⟨a1, xs, e4, h1, h2, h3, h4⟩ := S1.ow i ds e3
          rw [e1] at e4; cases e4
          refine ⟨a0, xs, v, rfl, rfl, h1, by rw [h2.length, ← line_eq]; exact hl, ?_⟩
          exact q1 σ F1 _ s1 (S1.chg e1 e3 (h2.append (.cons rd .nil)))
        · exact q1.elim
      · exact q1.elim
    · exact q.elim

/-! ### several stores at once -/
def fro : List V → List R → List Addr
  | .ref a :: vs, .o _ :: rs => a :: fro vs rs
  | _ :: vs, _ :: rs => fro vs rs
  | _, _ => []
inductive RRL (K : PySem.W.Frag) (Z F H : Hp) (σ : L2.St) (ρ : En) : List V → List R → Prop
  | nil : RRL K Z F H σ ρ [] []
  | cons {v : V} {r : R} {vs : List V} {rs : List R} : RR K Z F H σ ρ v r → RRL K Z F H σ ρ vs rs → (∀ a ds, v = .ref a → r = .o ds → a ∉ fro vs rs) → RRL K Z F H σ ρ (v :: vs) (r :: rs)
theorem RRL.fresh {Z F H : Hp} {σ : L2.St} {ρ : En} {vs : List V} {rs : List R} (h : RRL X.K Z F H σ ρ vs rs) : ∀ a ∈ fro vs rs, Z a = none ∧ F a = none := by
  induction h with
  | nil => intro a ha; simp [fro] at ha
  | @cons v r vs rs h1 h2 h3 ih =>
    intro a ha
    cases r with
    | v d => exact ih a (by cases v <;> exact ha)
    | o ds =>
      obtain ⟨b, xs, rfl, g1, g2, g3, g4, g5⟩ := h1
      rcases List.mem_cons.mp (show a ∈ b :: fro vs rs from ha) with rfl | ha
      · exact ⟨g4, g3⟩
      · exact ih a ha
theorem RRL.map {Z Z' F F' H H' : Hp} {σ σ' : L2.St} {ρ ρ' : En} {vs : List V} {rs : List R} (h : RRL X.K Z F H σ ρ vs rs)
    (hv : ∀ v d, Rp X.K F v d → Rp X.K F' v d) (ho : ∀ a xs ds, a ∈ fro vs rs → H a = some (.lst xs) → RpL X.K F xs ds → F a = none → Z a = none → (∀ i, ¬ OwnAt σ ρ i a) → H' a = some (.lst xs) ∧ RpL X.K F' xs ds ∧ F' a = none ∧ Z' a = none ∧ ∀ i, ¬ OwnAt σ' ρ' i a) :
    RRL X.K Z' F' H' σ' ρ' vs rs := by
  induction h with
  | nil => exact .nil
  | @cons v r vs rs h1 h2 h3 ih =>
    refine .cons ?_ (ih fun a xs ds ha => ho a xs ds ?_) h3
    · cases r with
      | v d => exact hv v d h1
      | o ds =>
        obtain ⟨b, xs, rfl, g1, g2, g3, g4, g5⟩ := h1
        obtain ⟨k1, k2, k3, k4, k5⟩ := ho b xs ds (by simp [fro]) g1 g2 g3 g4 g5
        exact ⟨b, xs, rfl, k1, k2, k3, k4, k5⟩
    · cases r with
      | v d => cases v <;> exact ha
      | o ds => obtain ⟨b, xs, rfl, _⟩ := h1; exact List.mem_cons_of_mem _ ha
theorem RRL.length {Z F H : Hp} {σ : L2.St} {ρ : En} {vs : List V} {rs : List R} (h : RRL X.K Z F H σ ρ vs rs) : vs.length = rs.length := by
  induction h with
  | nil => rfl
  | cons _ _ _ ih => simp [ih]
def tAR (K : PySem.W.Frag) (cn : Program × World × Oa) (W : WX) (f : En → Out (List R × En)) : TA := fun σ H Q => ∃ Z F ρ, Sok K cn Z F H σ ρ ∧
  Post (f ρ) (fun rs ρ' => ∀ vs F' H', Sub F F' → Sok K cn Z F' H' σ ρ' → RRL K Z F' H' σ ρ' vs rs → Q vs H') (EE K cn Z F W σ)
/-- an object is set apart -/
theorem Sok.aside {Z F H : Hp} {σ : L2.St} {ρ : En} {p : Addr} {xs : List V} (S : Sok X.K cn Z F H σ ρ) (hp : H p = some (.lst xs)) (hf : F p = none) (no : ∀ i, ¬ OwnAt σ ρ i p) : Sok X.K cn (L2.upd Z p (.lst xs)) F H σ ρ where
  tb := fun t ht => let ⟨x, y, z⟩ := S.tb t ht; ⟨x, y, by rw [upd_ne (S.not_tab hp (fun _ z => by cases z) t ht)]; exact z⟩
  fh := S.fh
  zh := S.zh.updL hp
  zf := fun a h => by
    by_cases e : a = p
    · rw [e]; exact hf
    · rw [upd_ne e] at h; exact S.zf a h
  zt := fun a l h => by
    by_cases e : a = p
    · subst e; rw [upd_same] at h; cases h
    · rw [upd_ne e] at h; exact S.zt a l h
  len := S.len
  fz := S.fz
  ow := fun i ds h => let ⟨a, ws, e, h1, h2, h3, h4⟩ := S.ow i ds h; ⟨a, ws, e, h1, h2, h3, by rw [upd_ne (fun (z : a = p) => no i ⟨by rw [e, z], .inl ⟨ds, h⟩⟩)]; exact h4⟩
  od := fun i ds h => let ⟨a, ws, e, h1, h2, h3, h4⟩ := S.od i ds h; ⟨a, ws, e, h1, h2, h3, by rw [upd_ne (fun (z : a = p) => no i ⟨by rw [e, z], .inr ⟨ds, h⟩⟩)]; exact h4⟩
  dj := S.dj
  p0 := S.p0
variable {hr : En → Out (List R × En)}
theorem s_rnil : PA X [] (tAR X.K cn W fun env => .ok ([], env)) := PA.weak pa_nil fun σ H Q ⟨Z, F, ρ, S, q⟩ => q [] F H (Sub.refl F) S .nil
theorem s_rcons (ha : PE X e (tE X.K cn W f)) (ht : PA X es (tAR X.K cn W hr)) (hs : starEach (e :: es) X.env = (false, eval e X.env) :: starEach es X.env) :
    PA X (e :: es) (tAR X.K cn W fun env => (f env).bind fun (x, env) => (hr env).bind fun (rs, env) => .ok (x :: rs, env)) :=
  PA.weak (pa_cons ha ht hs) fun σ H Q ⟨Z, F, ρ, S, q⟩ => by
    refine ⟨Z, F, ρ, S, (Post.bind q).imp (fun r ρ1 q1 v F1 H1 s1 S1 rr => ?_) fun _ h => h⟩
    cases r with
    | v d =>
      refine ⟨Z, F1, ρ1, S1, (Post.bind q1).imp (fun rs ρ2 q2 vs F2 H2 s2 S2 rrs => q2 (v :: vs) F2 H2 (s1.trans s2) S2 (.cons (rr.sub s2) rrs fun _ _ _ h => by cases h)) fun _ h => h.sub s1⟩
    | o ds =>
      obtain ⟨b, xs, rfl, g1, g2, g3, g4, g5⟩ := rr
      refine ⟨L2.upd Z b (.lst xs), F1, ρ1, S1.aside g1 g3 g5, (Post.bind q1).imp (fun rs ρ2 q2 vs F2 H2 s2 S2 rrs => ?_) fun e h F' H' a1 a2 a3 a4 => h F' H' (s1.trans a1) a2 ((Sub.new g4 _).trans a3) fun a z => a4 a fun y => z ((Sub.new g4 _).none y)⟩
      obtain ⟨S3, k1, k2, k3⟩ := S2.join g4
      refine q2 (.ref b :: vs) F2 H2 (s1.trans s2) S3 (.cons ⟨b, xs, rfl, k1, g2.sub s2, k2, g4, k3⟩ (rrs.map (fun _ _ h => h) fun a ys es _ m1 m2 m3 m4 m5 => ⟨m1, m2, m3, (Sub.new g4 _).none m4, m5⟩) ?_)
      intro a es h1 h2 hm
      cases h1
      have := (rrs.fresh b hm).1
      rw [upd_same] at this; cases this
def setAll (σ : L2.St) : List Nat → List V → L2.St
  | i :: is, v :: vs => setAll (σ.set i (some v)) is vs
  | _, _ => σ
theorem stores_ok {Z H : Hp} : ∀ {is : List (Nat × Bool)} {rs : List R} {vs : List V} {σ : L2.St} {ρ ρ' : En} {F : Hp}, Sok X.K cn Z F H σ ρ → RRL X.K Z F H σ ρ vs rs → stores is rs ρ = .ok ρ' →
    ∃ F', Sub F F' ∧ Sok X.K cn Z F' H (setAll σ (is.map (·.1)) vs) ρ'
  | [], [], _, σ, ρ, ρ', F, S, r, h => by cases h; cases r; exact ⟨F, Sub.refl F, S⟩
  | [], _ :: _, _, σ, ρ, ρ', F, S, r, h => by cases h
  | _ :: _, [], _, σ, ρ, ρ', F, S, r, h => by cases h
  | (i, o) :: is, r :: rs, _, σ, ρ, ρ', F, S, .cons (v := v) (vs := vs) h1 h2 h3, h => by
    unfold stores at h
    obtain ⟨ρ1, e1, e2⟩ := bind_ok h
    unfold store at e1
    split at e1
    case isFalse => cases e1
    rename_i hi0
    have h0 := hi0.1
    have hi := hi0.2
    have own : ∀ {s : Sl} {j : Nat} {b : Addr}, OwnAt (σ.set i (some v)) (ρ.set i s) j b → (v = .ref b ∧ ∃ x, s = .ow x ∨ ∃ y, s = .od y) ∨ OwnAt σ ρ j b := fun {s j b} ho => by
      obtain ⟨k1, k2⟩ := ho
      by_cases z : j = i
      · subst z
        rw [List.getElem?_set_self (by rw [S.len]; exact hi)] at k1
        rw [List.getElem?_set_self hi] at k2
        rcases k2 with ⟨x, k2⟩ | ⟨y, k2⟩
        · exact .inl ⟨Option.some.inj (Option.some.inj k1), x, .inl (Option.some.inj k2)⟩
        · exact .inl ⟨Option.some.inj (Option.some.inj k1), [], .inr ⟨y, Option.some.inj k2⟩⟩
      · rw [List.getElem?_set_ne (Ne.symm z)] at k1 k2
        exact .inr ⟨k1, k2⟩
    cases r with
    | v d =>
      split at e1
      · cases e1
      · cases e1
        show ∃ F', Sub F F' ∧ Sok X.K cn Z F' H (setAll (σ.set i (some v)) (is.map (·.1)) vs) ρ'
        exact stores_ok (S.setF h1 h0 hi) (h2.map (fun _ _ h => h) fun a xs ds ha g1 g2 g3 g4 g5 => ⟨g1, g2, g3, g4, fun j ho => by
          rcases own ho with ⟨_, x, z | ⟨y, z⟩⟩ | z
          · cases z
          · cases z
          · exact g5 j z⟩) e2
    | o ds =>
      obtain ⟨b, xs, rfl, g1, g2, g3, g4, g5⟩ := id h1
      have nb : ∀ a ∈ fro vs rs, a ≠ b := fun a ha z => h3 b ds rfl rfl (z ▸ ha)
      split at e1
      · cases e1
        show ∃ F', Sub F F' ∧ Sok X.K cn Z F' H (setAll (σ.set i (some (.ref b))) (is.map (·.1)) vs) ρ'
        exact stores_ok (S.setO h1 h0 hi) (h2.map (fun _ _ h => h) fun a xs ds ha g1 g2 g3 g4 g5 => ⟨g1, g2, g3, g4, fun j ho => by
          rcases own ho with ⟨z, _⟩ | z
          · cases z; exact nb _ ha rfl
          · exact g5 j z⟩) e2
      · cases e1
        have s2 : Sub F (L2.upd F b (.lst xs)) := Sub.new g3 _
        have S2 := (S.tell g1 g3 g4 g5 (S.not_tab g1 fun _ z => by cases z)).setF (i := i) (Rp.lst (K := X.K) (a := b) upd_same (g2.sub s2)) h0 hi
        obtain ⟨F3, s3, S3⟩ := stores_ok S2 (h2.map (fun _ _ h => h.sub s2) fun a ys es ha g1 g2 g3 g4 g5 => ⟨g1, g2.sub s2, by rw [upd_ne (nb a ha)]; exact g3, g4, fun j ho => by
          rcases own ho with ⟨_, x, z | ⟨y, z⟩⟩ | z
          · cases z
          · cases z
          · exact g5 j z⟩) e2
        exact ⟨F3, s2.trans s3, S3⟩
theorem stores_noerr : ∀ {is : List (Nat × Bool)} {rs : List R} {ρ : En} {e : Ex}, stores is rs ρ ≠ .err e
  | [], [], _, _ => by intro h; cases h
  | [], _ :: _, _, _ => by intro h; cases h
  | _ :: _, [], _, _ => by intro h; cases h
  | (i, o) :: is, r :: rs, ρ, e => by
    unfold stores
    cases h : store i o r ρ with
    | ok ρ1 => exact stores_noerr
    | err _ => exact absurd h store_noerr
    | bad => intro h; cases h
/-- a, b = x, y: t is what the text's rule makes of it -/
theorem s_par {is : List (Nat × Bool)} {ta : TS} (hp : PS X st ta) (hrd : ∀ D σ H, tAR X.K cn W hr σ H (fun vs H1 => vs.length = is.length ∧ (∀ H2, H2 = H1 ∨ (∃ p xs, H1 p = none ∧ H2 = L2.upd H1 p (.tup xs)) → D.nx (setAll σ (is.map (·.1)) vs) H2)) → ta D σ H)
    (hlen : ∀ ρ rs ρ', hr ρ = .ok (rs, ρ') → rs.length = is.length) :
    PS X st (tS X.K cn W fun env => (hr env).bind fun (rs, env) => (stores is rs env).bind fun env => .ok (.nx, env)) :=
  PS.weak hp fun D σ H ⟨Z, F, ρ, S, q⟩ => hrd D σ H (by
    refine ⟨Z, F, ρ, S, ?_⟩
    dsimp only at q
    cases e : hr ρ with
    | bad => rw [e] at q; exact q
    | err x => rw [e] at q; exact q σ
    | ok pr =>
      obtain ⟨rs, ρ1⟩ := pr
      rw [e] at q
      intro vs F1 H1 s1 S1 rrs
      have q : Post ((stores is rs ρ1).bind fun env => .ok (Fl.nx, env)) _ _ := q
      obtain ⟨ρ2, e2, q2⟩ := Post.bind0 q (fun e => stores_noerr)
      have hl : vs.length = rs.length := rrs.length
      refine ⟨hl.trans (hlen _ _ _ e), fun H2 hH => ?_⟩
      obtain ⟨F3, s3, S3⟩ := stores_ok S1 rrs e2
      rcases hH with rfl | ⟨p, xs, hp, rfl⟩
      · exact q2 _ F3 _ (s1.trans s3) S3
      · exact q2 _ F3 _ (s1.trans s3) (S3.new hp _))

/-! ### stores into lists and dicts of one's own -/
theorem s_setix {i : Nat} {tpos : Pos} (ho : PE X a (tVar i)) (hb : PE X b (tE X.K cn W f')) (he : PE X e (tE X.K cn W f)) (hp : PS X (.Assign [.Subscript a b tpos] e pos) (tAsg (tE X.K cn W f) (gSub (tVar i) (tE X.K cn W f') rSetL))) :
    PS X (.Assign [.Subscript a b tpos] e pos) (tS X.K cn W fun env => match get env i with
      | .ow _ => (f env).bind fun (r, env) => (f' env).bind fun (y, env) => (match get env i, y.d with
        | .ow ds, .int k => (match place ds.length k with | some j => .ok (.nx, env.set i (.ow (ds.set j r.d))) | none => .bad)
        | _, _ => .bad)
      | _ => .bad) :=
  PS.weak hp fun D σ H ⟨Z, F, ρ, S, q⟩ => by
    dsimp only at q
    split at q
    · rename_i ds0 e0
      obtain ⟨a0, xs0, e1, h0, _⟩ := S.ow i ds0 (get_some e0 (by intro h; cases h))
      refine tE.stepD S q fun r ρ1 v F1 H1 s1 S1 rd q1 => ⟨_, e1, tE.stepD S1 (q1.imp (fun _ _ h => h.sub s1) fun _ h σ' => (h σ').sub s1) fun r2 ρ2 u F2 H2 s2 S2 rd2 q2 => ?_⟩
      dsimp only at q2
      split at q2
      · rename_i ds k e2 e3
        split at q2
        · rename_i j e4
          have e5 := get_some e2 (by intro h; cases h)
          obtain ⟨a1, xs, e6, h1, h2, h3, h4⟩ := S2.ow i ds e5
          rw [e1] at e6; cases e6
          rw [e3] at rd2
          cases rd2
          refine ⟨a0, xs, k, j, rfl, rfl, h1, by rw [h2.length]; exact e4, ?_⟩
          exact q2 σ F2 _ s2 (S2.chg e1 e5 (h2.set (rd.sub s2) j))
        · exact q2.elim
      · exact q2.elim
    · exact q.elim
/-- a dict of one's own is changed -/
theorem Sok.chgD {Z F H : Hp} {σ : L2.St} {ρ : En} {i : Nat} {q0 : Addr} {ks es : List (List Int × D)} {ys : List (List Key × Addr × Value)} (S : Sok X.K cn Z F H σ ρ) (hi : σ[i]? = some (some (.ref q0))) (ho : ρ[i]? = some (.od ks)) (r : KvL X.K F ys es) :
    Sok X.K cn Z F (L2.upd H q0 (MPS.DTO cn.1 cn.2.1 q0 ys)) σ (ρ.set i (.od es)) := by
  obtain ⟨a', xs, e1, h1, h2, h3, h4⟩ := S.od i ks ho
  rw [hi] at e1; cases e1
  have oi : OwnAt σ ρ i q0 := ⟨hi, .inr ⟨ks, ho⟩⟩
  have own : ∀ {j : Nat} {b : Addr}, OwnAt σ (ρ.set i (.od es)) j b → OwnAt σ ρ j b := fun {j b} hb => by
    obtain ⟨g1, ⟨es', g2⟩ | ⟨ks', g2⟩⟩ := hb
    · rcases getElem?_set_cases g2 with ⟨_, z⟩ | ⟨_, z⟩
      · cases z
      · exact ⟨g1, .inl ⟨_, z⟩⟩
    · rcases getElem?_set_cases g2 with ⟨rfl, _⟩ | ⟨_, z⟩
      · exact ⟨g1, .inr ⟨ks, ho⟩⟩
      · exact ⟨g1, .inr ⟨_, z⟩⟩
  exact {
    tb := fun t ht => let ⟨x, y, z⟩ := S.tb t ht; ⟨tabS_keep x h1 (fun _ z => by unfold MPS.DTO at z; cases z) fun _ => dto_not_code, y, z⟩
    fh := S.fh.updR h3 _
    zh := S.zh.updR h4 _
    zf := S.zf
    zt := S.zt
    len := by rw [List.length_set]; exact S.len
    fz := fun j d' h => by
      rcases getElem?_set_cases h with ⟨_, z⟩ | ⟨_, z2⟩
      · cases z
      · exact S.fz j d' z2
    ow := fun j d' h => by
      rcases getElem?_set_cases h with ⟨_, z⟩ | ⟨z1, z2⟩
      · cases z
      · obtain ⟨b, ws, g1, g2, g3, g4, g5⟩ := S.ow j d' z2
        exact ⟨b, ws, g1, by rw [upd_ne (fun (z : b = q0) => z1 (S.dj j i q0 ⟨by rw [g1, z], .inl ⟨_, z2⟩⟩ oi))]; exact g2, g3, g4, g5⟩
    od := fun j d' h => by
      rcases getElem?_set_cases h with ⟨rfl, z⟩ | ⟨z1, z2⟩
      · cases z; exact ⟨q0, ys, hi, upd_same, r, h3, h4⟩
      · obtain ⟨b, ws, g1, g2, g3, g4, g5⟩ := S.od j d' z2
        exact ⟨b, ws, g1, by rw [upd_ne (fun (z : b = q0) => z1 (S.dj j i q0 ⟨by rw [g1, z], .inr ⟨_, z2⟩⟩ oi))]; exact g2, g3, g4, g5⟩
    dj := fun j l b hj hl => S.dj j l b (own hj) (own hl)
    p0 := S.p0 }
theorem s_dset {i : Nat} {tpos : Pos} {oa : Oa} (hcn : cn = (X.prog, X.w, oa)) (hu : X.A.units + 1 < cLine) (ho : PE X a (tVar i)) (hi : PE X b (tE X.K cn W f')) (hv : PE X e (tE X.K cn W f)) (hs : swapsWith e (some (.Subscript a b tpos)) pos.line X.env = pure false) :
    PS X (.Assign [.Subscript a b tpos] e pos) (tS X.K cn W fun env => if !isOd env i then .bad else (f env).bind fun (r, env) => (f' env).bind fun (y, env) => match get env i, keyOf y.d with
      | .od kvs, some q => if kvs.length < line then .ok (.nx, env.set i (.od (dput q r.d kvs))) else .bad
      | _, _ => .bad) := by
  subst hcn
  exact PS.weak (MPS.ps_tput hu ho hi hv hs) fun D σ H ⟨Z, F, ρ, S, q⟩ => by
    dsimp only at q
    split at q
    · exact q.elim
    · rename_i ho
      obtain ⟨a0, ws0, e1, h0⟩ := isOd_ok S (by simpa using ho)
      refine tE.stepD S q fun r ρ1 v F1 H1 s1 S1 rd q1 => ⟨_, e1, tE.stepD S1 (q1.imp (fun _ _ h => h.sub s1) fun _ h σ' => (h σ').sub s1) fun r2 ρ2 u F2 H2 s2 S2 rd2 q2 => ?_⟩
      dsimp only at q2
      split at q2
      · rename_i kvs k e2 e3
        split at q2
        · rename_i hl
          have e5 := get_some e2 (by intro h; cases h)
          obtain ⟨a1, ws, e6, h1, h2, h3, h4⟩ := S2.od i kvs e5
          rw [e1] at e6; cases e6
          obtain ⟨bb, rfl, g3, g4⟩ := key_ok S2.fh rd2 e3
          refine ⟨a0, bb, ws, _, rfl, rfl, h1, h2.ks S2.fh, g4, by rw [h2.len, ← line_eq]; exact hl, fun u hu => ?_⟩
          exact q2 σ F2 _ s2 (S2.chgD e1 e5 (h2.put k g3 hu (rd.sub s2)))
        · exact q2.elim
      · exact q2.elim
end
end MP

end
section
set_option linter.all false
set_option Elab.async false
set_option maxRecDepth 100000
set_option maxHeartbeats 4000000
/-! if, while, for, raise, {} .. -/
namespace MP
open PySem PySem.Spec PyProof.Rows L2
section
variable {X : Cx} {cn : Program × World × Oa} {W : WX} {e a b c tg iter : Expr} {pos p apos : Pos} {f f' f'' : En → Out (R × En)} {es : List Expr} {h : En → Out (List D × En)} {st : Stmt} {sts sts' : List Stmt} {g g' : En → Out (Fl × En)} {t : En → Out (Bool × En)}

theorem s_never : PS X st (tS X.K cn W fun _ => .bad) := PS.weak ps_never fun D σ H ⟨Z, F, ρ, S, q⟩ => q
theorem s_iff (hc : PT X c (tT X.K cn W t)) (ha : PSs X sts (tS X.K cn W g)) (hb : PSs X sts' (tS X.K cn W g')) :
    PS X (.If c sts sts' pos) (tS X.K cn W fun env => (t env).bind fun (k, env) => if k then g env else g' env) :=
  PS.weak (ps_if hc ha hb) fun D σ H ⟨Z, F, ρ, S, q⟩ => ⟨Z, F, ρ, S, (Post.bind q).imp (fun k ρ1 q1 F1 H1 s1 S1 => by
    cases k with
    | true => exact tS.later s1 S1 q1
    | false => exact tS.later s1 S1 q1) fun e h => h σ⟩
theorem s_whil (hp : PassesOwn (model X.prog X.w) X.A X.env X.xe) (hc : PT X c (tT X.K cn W t)) (hb : PSs X sts (tS X.K cn W g)) (n : Nat) :
    PS X (.While c sts [] pos) (tS X.K cn W fun env => whileL t g n env) :=
  PS.weak (ps_while hp hc hb) fun D σ H ⟨Z, F, ρ, S, q⟩ => by
    refine ⟨fun m σ' H' => ∃ F' ρ', Sub F F' ∧ Sok X.K cn Z F' H' σ' ρ' ∧ Post (whileL t g m ρ') (PS0 X.K cn Z F D) (fun e => ∀ σ', EE X.K cn Z F W σ' e), ⟨n, F, ρ, Sub.refl F, S, q⟩, ?_⟩
    rintro m σ1 H1 ⟨F1, ρ1, s1, S1, q1⟩
    cases m with
    | zero => exact q1.elim
    | succ m =>
      refine ⟨Z, F1, ρ1, S1, (Post.bind (show Post ((t ρ1).bind _) _ _ from q1)).imp (fun k ρ2 q2 F2 H2 s2 S2 => ?_) fun e h => (h σ1).sub s1⟩
      cases k with
      | false =>
        rw [if_neg (by simp)]
        have q2 : Post (Out.ok (Fl.nx, ρ2)) (PS0 X.K cn Z F D) (fun e => ∀ σ', EE X.K cn Z F W σ' e) := q2
        exact q2 σ1 F2 H2 (s1.trans s2) S2
      | true =>
        rw [if_pos rfl]
        have q2 : Post ((g ρ2).bind fun (f, env) => (match f with
          | .nx => whileL t g m env
          | .rt r => .ok (.rt r, env))) (PS0 X.K cn Z F D) (fun e => ∀ σ', EE X.K cn Z F W σ' e) := q2
        refine ⟨_, fun σ' H' hh => ⟨m, Nat.lt_succ_self m, hh⟩, Z, F2, ρ2, S2, (Post.bind q2).imp (fun fl ρ3 q3 => ?_) fun e h σ' => ((h σ').sub s1).sub s2⟩
        cases fl with
        | nx => exact fun σ3 F3 H3 s3 S3 => ⟨F3, ρ3, (s1.trans s2).trans s3, S3, q3⟩
        | rt r => exact fun v σ3 F3 H3 s3 S3 rr => q3 v σ3 F3 H3 ((s1.trans s2).trans s3) S3 rr
theorem s_forr {u : Tg} {fs : En → Out (List D × En)} (hp : PassesOwn (model X.prog X.w) X.A X.env X.xe) (hc : X.calm = true) (hi : PI X tg iter (tI X.K cn W fs)) (hg : PG X tg (tG X.K cn u)) (hb : PSs X sts (tS X.K cn W g))
    (hs : ∀ x, foldedSetIterable iter X.env x = pure x) :
    PS X (.For tg iter sts [] pos) (tS X.K cn W fun env => (fs env).bind fun (ds, env) => forL (fun d env => (put u d env).bind fun env => g env) ds env) :=
  PS.weak (ps_for hp hc hi hg hb hs) fun D σ H ⟨Z, F, ρ, S, q⟩ => by
    refine ⟨Z, F, ρ, S, (Post.bind q).imp (fun ds ρ1 q1 J F1 H1 s1 S1 wk hlen => ?_) fun e h => h σ⟩
    refine ⟨fun i m σ' H' => m = ds.length - i ∧ ∃ F' ρ', Sub F1 F' ∧ Sok X.K cn Z F' H' σ' ρ' ∧ Post (forL (fun d env => (put u d env).bind fun env => g env) (ds.drop i) ρ') (PS0 X.K cn Z F D) (fun e => ∀ σ', EE X.K cn Z F W σ' e),
      ⟨_, rfl, F1, ρ1, Sub.refl F1, S1, q1⟩, ?_⟩
    rintro i m σ2 H2 ⟨hm, F2, ρ2, s2, S2, q2⟩
    have wki := wk i Z F2 H2 σ2 ρ2 s2 S2
    cases hd : ds[i]? with
    | none =>
      left
      rw [List.drop_eq_nil_of_le (List.getElem?_eq_none_iff.mp hd)] at q2
      exact ⟨wki.2 hd, q2 σ2 F2 H2 (s1.trans s2) S2⟩
    | some d =>
      right
      have hlt : i < ds.length := (List.getElem?_eq_some_iff.mp hd).1
      have hdrop : ds.drop i = d :: ds.drop (i + 1) := by
        rw [List.drop_eq_getElem_cons hlt]
        rw [List.getElem?_eq_getElem hlt] at hd
        rw [Option.some.inj hd]
      obtain ⟨go, yl⟩ := wki.1 d hd
      refine ⟨go, _, fun σ' H' hh => ⟨ds.length - (i + 1), by omega, rfl, hh⟩, fun x H3 hy => ?_⟩
      obtain ⟨F3, s3, S3, rx⟩ := yl x H3 hy
      rw [hdrop] at q2
      unfold forL at q2
      have q3 : Post ((put u d ρ2).bind fun env => (g env).bind fun (f, env) => match f with
        | .nx => forL (fun d env => (put u d env).bind fun env => g env) (ds.drop (i + 1)) env
        | .rt r => .ok (.rt r, env)) (PS0 X.K cn Z F D) (fun e => ∀ σ', EE X.K cn Z F W σ' e) := by
        cases e : put u d ρ2 with
        | ok _ => rw [e] at q2; exact q2
        | err _ => rw [e] at q2; exact q2
        | bad => rw [e] at q2; exact q2
      obtain ⟨ρ3, e3, q4⟩ := Post.bind0 q3 (fun e => put_noerr)
      refine ⟨Z, F3, ρ2, d, ρ3, S3, rx, e3, fun σ4 S4 _ _ => ⟨Z, F3, ρ3, S4, (Post.bind q4).imp (fun fl ρ5 q5 => ?_) fun e h σ' => ((h σ').sub s1).sub (s2.trans s3)⟩⟩
      cases fl with
      | nx => exact fun σ5 F5 H5 s5 S5 => ⟨F5, ρ5, (s2.trans s3).trans s5, S5, q5⟩
      | rt r => exact fun v σ5 F5 H5 s5 S5 rr => q5 v σ5 F5 H5 (((s1.trans s2).trans s3).trans s5) S5 rr
/-- raise x('..') -/
theorem s_rais {x m : Str} {j : Nat} {p1 p2 : Pos} {B newId initId : String} {bmB : List Value} (hcalm : X.calm = true) (tk : L2N.Takes X W) (Fx : ExcBaseFacts B newId initId bmB) (q : PySem.W.excIn X.K (He.ga X.K x) bmB newId = true) (gC : X.mg x = some (.ref (He.ga X.K x)))
    (kC : PySem.W.keepIn X.K (.ref (He.ga X.K x)) = true) (r : Raises X (.ref (He.ga X.K x))) (hg : Gl X x) (hdb : (x == ("__debug__" : Str)) = false) :
    PS X (.Raise (some (.Call (.Name x p) [.Constant (.str m) j p2] [] p1)) none pos) (tS X.K cn W fun _ => .err ⟨x⟩) :=
  PS.weak (L2N.ps_raise hcalm tk (L2N.pmk_own Fx q gC kC r hg hdb)) fun D σ H ⟨Z, F, ρ, S, q⟩ => q σ F H (Sub.refl F) S.fh S.zh S.zf fun t ht => ⟨(S.tb t ht).1, (S.tb t ht).2.1⟩
/-- a dict of one's own goes to a slot -/
theorem Sok.setD {Z F H : Hp} {σ : L2.St} {ρ : En} {i : Nat} {q0 : Addr} (S : Sok X.K cn Z F H σ ρ) (hp : H q0 = none) (h0 : 0 < i) (hi : i < ρ.length) :
    Sok X.K cn Z F (L2.upd H q0 (MPS.DTO cn.1 cn.2.1 q0 [])) (σ.set i (some (.ref q0))) (ρ.set i (.od [])) := by
  have S1 := S.new hp (MPS.DTO cn.1 cn.2.1 q0 [])
  have own : ∀ {j : Nat} {q : Addr}, OwnAt (σ.set i (some (.ref q0))) (ρ.set i (.od [])) j q → (j = i ∧ q = q0) ∨ (j ≠ i ∧ OwnAt σ ρ j q) := fun {j q} ho => by
    obtain ⟨g1, g2⟩ := ho
    by_cases z : j = i
    · subst z
      rw [List.getElem?_set_self (by rw [S.len]; exact hi)] at g1
      cases g1; exact .inl ⟨rfl, rfl⟩
    · rw [List.getElem?_set_ne (Ne.symm z)] at g1
      refine .inr ⟨z, g1, ?_⟩
      rw [List.getElem?_set_ne (Ne.symm z)] at g2
      exact g2
  exact {
    tb := S1.tb
    fh := S1.fh
    zh := S1.zh
    zf := S1.zf
    zt := S1.zt
    len := by rw [List.length_set, List.length_set]; exact S.len
    fz := fun j d' h => by
      rcases getElem?_set_cases h with ⟨rfl, z⟩ | ⟨z1, z2⟩
      · cases z
      · rw [List.getElem?_set_ne (Ne.symm z1)]; exact S1.fz j d' z2
    ow := fun j d' h => by
      rcases getElem?_set_cases h with ⟨rfl, z⟩ | ⟨z1, z2⟩
      · cases z
      · rw [List.getElem?_set_ne (Ne.symm z1)]; exact S1.ow j d' z2
    od := fun j d' h => by
      rcases getElem?_set_cases h with ⟨rfl, z⟩ | ⟨z1, z2⟩
      · cases z; exact ⟨q0, [], List.getElem?_set_self (by rw [S.len]; exact hi), upd_same, .nil, S.fnone hp, S.znone hp⟩
      · rw [List.getElem?_set_ne (Ne.symm z1)]; exact S1.od j d' z2
    dj := fun j l q hj hl => by
      rcases own hj with ⟨rfl, e1⟩ | ⟨z1, o1⟩ <;> rcases own hl with ⟨rfl, e2⟩ | ⟨z2, o2⟩
      · rfl
      · exact absurd (e1 ▸ o2) (S.own_ne hp)
      · exact absurd (e2 ▸ o1) (S.own_ne hp)
      · exact S.dj j l q o1 o2
    p0 := fun a h => by rw [List.getElem?_set_ne (by omega)]; exact S.p0 a h }
theorem s_dnew {i : Nat} {x : Str} {p' p2 : Pos} {oa : Oa} (hcn : cn = (X.prog, X.w, oa)) (hp : PS X (.Assign [.Name x p'] (.Dict [] [] p2) pos) (tAsg (MPS.tTNew X) (gName i))) :
    PS X (.Assign [.Name x p'] (.Dict [] [] p2) pos) (tS X.K cn W fun env => if 0 < i ∧ i < env.length then .ok (.nx, env.set i (.od [])) else .bad) := by
  subst hcn
  exact PS.weak hp fun D σ H ⟨Z, F, ρ, S, q⟩ q0 hq0 => by
    dsimp only at q
    split at q
    · rename_i hi
      exact q _ F _ (Sub.refl F) (S.setD hq0 hi.1 hi.2)
    · exact q.elim
end
end MP

end
section
set_option linter.all false
set_option Elab.async false
set_option maxRecDepth 100000
set_option maxHeartbeats 4000000
/-! sorted(set(..)) of ints, any number below scanBound. -/
namespace MPS
open PySem PySem.Spec PyProof.Rows L2 Calls
section
variable {P : Program} {w : World} {A : Around} {E : Value → Shared → Prop} {s : Shared}
set_option maxRecDepth 100000 in
set_option maxHeartbeats 3200000 in
/-- set(l) of a list of ints (turned from the library's proof for a tuple) -/
theorem set_lst {l : Addr} {items : Array Value} (ns : List Int) {Q : Value → Shared → Prop} (hh : A.handled = none) (hl : s.heap.IsList l items) (hit : IntsAre items.toList ns) (hb : ns.length + 1 < scanBound)
    (h : ∀ (h' : Heap) (tk c : Nat), SetR w h' s.heap.objs.size (fun j => decide (j ∈ ns)) c → c ≤ ns.length → (∀ b o, s.heap.get? b = some o → h'.get? b = some o) → Q (.ref s.heap.objs.size) { s with heap := h', toks := tk }) :
    wpAny (model P w) A (call (.type "set") [.ref l]) Q E s := by
  have hisz : items.size = ns.length := by
    have q := IntsAre.length hit
    rw [Array.length_toList] at q
    exact q
  obtain ⟨c, tl, hmro⟩ := F.called_set.mro
  have hmade := F.called_set.made
  have hsub := F.called_set.sub
  refine wpAny_call (codeAny_of_tree ?_)
  show wpAny _ _ (callAny (.type "set") _) _ _ _
  refine wpAny_pure ⟨Code.quiet_builtin _ (by decide +kernel), codeAny_builtin F.entry_type_call ?_⟩
  rw [Around.under_plain (weight_type_call_type "set" [.ref l] []) rfl]
  have h1 := F.called_set.notType
  have h2 := F.called_set.canCreate
  have hct := F.typeCall_set_1 (.ref l)
  repeat (any_goals (first | assumption | wp_step))

  refine codeAny_mono (code_set_led1 (.ref l) (E := E) (Q₁ := fun obj s₁ => obj = .ref s.heap.objs.size ∧ s₁ = { s with heap := s.heap.push { cls := .type "set", dict := none, data := .set #[] 0 (.fresh 0 0 (!w.params.followText "set-order")) } }) ⟨rfl, rfl⟩) fun r s₁ hr => ?_
  cases r with
  | error e => exact hr
  | ok fl =>
    cases fl with
    | ret obj =>
      obtain ⟨rfl, rfl⟩ := hr
      have hS : (s.heap.push { cls := .type "set", dict := none, data := .set #[] 0 (.fresh 0 0 (!w.params.followText "set-order")) }).get? s.heap.objs.size = some { cls := .type "set", dict := none, data := .set #[] 0 (.fresh 0 0 (!w.params.followText "set-order")) } := Heap.get?_push_size _ rfl
      have hT : Shared.TypeIs { s with heap := s.heap.push { cls := .type "set", dict := none, data := .set #[] 0 (.fresh 0 0 (!w.params.followText "set-order")) } } (.ref s.heap.objs.size) "set" := ⟨_, hS, rfl⟩
      have hli := F.called_set.init.lookup
      have hbi := F.called_set.init.bind (.ref s.heap.objs.size)
      repeat (any_goals (first | assumption | wp_step))

      refine codeAny_mono (codeAny_call_builtin (R := wants (fun r s₂ => r = .none ∧ ∃ h' tk c, s₂ = { s with heap := h', toks := tk } ∧ SetR w h' s.heap.objs.size (fun j => decide (j ∈ ns)) c ∧ c ≤ ns.length ∧
          (∀ b o, s.heap.get? b = some o → h'.get? b = some o)) E) F.called_set.init.plain F.entry_set_init (check_set_init_1 hT ?_)) fun r₂ s₂ hr₂ => ?_
      · obtain ⟨ol, hol, hcl, nl, hdl⟩ := hl
        obtain ⟨ocls, odict, odata, oslots⟩ := ol
        simp only at hcl hdl
        subst hcl; subst hdl
        have hol' : (s.heap.push { cls := .type "set", dict := none, data := .set #[] 0 (.fresh 0 0 (!w.params.followText "set-order")) }).get? l = some { cls := .type "list", dict := odict, data := .seq items nl, slots := oslots } := Heap.get?_push_of_some _ hol
        have hsls := F.sub_list_set
        have hslf := F.sub_list_frozenset
        have hne : (Value.type "list" == Value.type "dict") = false := by decide
        have hl1 : (s.heap.push { cls := .type "set", dict := none, data := .set #[] 0 (.fresh 0 0 (!w.params.followText "set-order")) }).IsList l items := ⟨_, hol', rfl, nl, rfl⟩
        unfold Builtin.«set.__init__» noKeywords Builtin.Frozenset.updateFrom
        generalize hPI : pyIter = PI
        wp_walk
        subst hPI

        refine wpAny_pyIter_list hl1 ?_
        refine wpAny_bind (wpAny_runValue ?_)
        have hlS : l < s.heap.objs.size := Heap.lt_size hol
        have hh3 : A.in1.in1.in1.handled = none := by simp [hh]
        have hz1 : (s.heap.push { cls := .type "set", dict := none, data := .set #[] 0 (.fresh 0 0 (!w.params.followText "set-order")) }).objs.size = s.heap.objs.size + 1 := Heap.size_push ..
        have hneI : l ≠ (s.heap.push { cls := .type "set", dict := none, data := .set #[] 0 (.fresh 0 0 (!w.params.followText "set-order")) }).objs.size := by
          rw [Heap.size_push]; exact Nat.ne_of_lt (Nat.lt_succ_of_lt hlS)
        have hSf : s.heap.objs.size ∉ [(s.heap.push { cls := .type "set", dict := none, data := .set #[] 0 (.fresh 0 0 (!w.params.followText "set-order")) }).objs.size, l] := by
          rw [Heap.size_push]; simp only [List.mem_cons, List.mem_singleton, List.not_mem_nil, or_false, not_or]
          exact ⟨Nat.ne_of_lt (Nat.lt_succ_self _), Nat.ne_of_gt hlS⟩
        have hval : ∀ (i : Nat) (v : Value), items[i]? = some v → ∃ k t, ns[i]? = some k ∧ v = .int k t := fun i v hv => by
          have hi : i < ns.length := by rw [← hisz]; exact (Array.getElem?_eq_some_iff.mp hv).1
          obtain ⟨t, e⟩ := PyProof.Rows.IntsAre.int_at hit i v (by rw [Array.getElem?_toList]; exact hv)
          refine ⟨ns[i], t, List.getElem?_eq_getElem hi, ?_⟩
          rw [e, List.getD_eq_getElem?_getD, List.getElem?_eq_getElem hi] <;> rfl
        refine set_update_ints ((Walks.list hh3 _ l hneI items).toS) s.heap.objs.size
          hSf ns hisz hb hval (items.size - 0) 0 _ (by omega) (Nat.zero_le _)
          ⟨⟨_, Heap.get?_push_size _ rfl, rfl, rfl⟩, (hl1.push _)⟩ ?hS0 ?hR
        case hS0 =>
          have hget : ((s.heap.push { cls := .type "set", dict := none, data := .set #[] 0 (.fresh 0 0 (!w.params.followText "set-order")) }).push { cls := .type "list_iterator", data := .fields #[.ref l, .int 0 0] }).get? s.heap.objs.size
              = some { cls := .type "set", dict := none, data := .set #[] 0 (.fresh 0 0 (!w.params.followText "set-order")) } := Heap.get?_push_of_some _ hS
          exact ⟨0, Nat.le_refl 0, setR_new_at hget⟩
        case hR =>
          intro s' c' hm hc' hS'
          obtain ⟨h', g2, d', tk', os'⟩ := s'
          have eg : g2 = s.gens := hm.gens
          have ed : d' = s.drawn := hm.drawn
          have eo : os' = s.os := hm.os
          subst eg; subst ed; subst eo
          show wpAny _ _ _ _ _ _
          refine wpAny_pure ?_
          show wpAny _ _ (ret Value.none) _ _ _
          rw [hisz] at hc'
          refine wpAny_pure ⟨rfl, h', tk', c', rfl, hS', hc', fun b o e => ?_⟩
          have hb0 : b < s.heap.objs.size := Heap.lt_size e
          have hb1 : b ≠ s.heap.objs.size := Nat.ne_of_lt hb0
          have hb2 : b ≠ (s.heap.push { cls := .type "set", dict := none, data := .set #[] 0 (.fresh 0 0 (!w.params.followText "set-order")) }).objs.size := by
            rw [Heap.size_push]; exact Nat.ne_of_lt (Nat.lt_succ_of_lt hb0)
          exact hm.heap b o (by simp only [List.mem_cons, List.mem_singleton, List.not_mem_nil, or_false, not_or]; exact ⟨hb1, hb2⟩) (Heap.get?_push_of_some _ (Heap.get?_push_of_some _ e))

      · cases r₂ with
        | error e => exact hr₂
        | ok fl₂ =>
          cases fl₂ with
          | ret r =>
            obtain ⟨rfl, h', tk, c', rfl, hS', hc', hk'⟩ := hr₂
            repeat (any_goals (first | assumption | wp_step))
            exact h _ _ _ hS' hc' hk'
          | _ => exact hr₂.elim
    | _ => exact hr.elim

/-- sorted(set), however many -/
theorem sorted_any {a : Addr} {S : Int → Bool} {n : Nat} {Q : Value → Shared → Prop} (R : SetR w s.heap a S n) (hh : A.handled = none) 
    (hQ : ∀ s' p (out : Array Value) (c : Nat) (ns : List Int), (∀ b o, s.heap.get? b = some o → s'.heap.get? b = some o) → s'.gens = s.gens → s'.os = s.os → s.heap.objs.size ≤ p →
      s'.heap.get? p = some (seqObj "list" out c) → IntsAre out.toList ns → ns.Pairwise (· < ·) → (∀ k, k ∈ ns ↔ S k = true) → ns.length = n → Q (.ref p) s') :
    wpAny (model P w) A (call (.builtin "sorted") [.ref a]) Q E s := by
  obtain ⟨o, es, ep, t, ho, hex, hd, g, nd, hm, hb, hf, hn, hr, hl⟩ := R
  refine Calls.call_function_entry kind_sorted plain_sorted entry_sorted (args_sorted1 _) ?_
  unfold Builtin.«sorted»
  refine wpAny_bind (m := checkCount "sorted" 1 1 _) (wpAny_pure ?_)
  refine wpAny_bind (collect_set (A := A.in1) hh ⟨o, ho, hex.1, hd⟩ hf hb hr hl fun s1 vs k1 hz g1 o1 pm => ?_)
  have hvl : vs.length = n := by rw [pm.length_eq, List.length_map, Array.length_toList]; exact hn
  have hI : IntsAre vs (vs.map Builtin.Re.reRawOf) := ints_of vs fun v hv => by
    obtain ⟨e, he, q⟩ := List.mem_map.mp (pm.mem_iff.mp hv)
    obtain ⟨k, tk, h1, _⟩ := g e he
    exact ⟨k, tk, by rw [← q]; exact h1⟩
  have pk : (vs.map Builtin.Re.reRawOf).Perm (es.toList.map keyOf) := by
    have q := pm.map Builtin.Re.reRawOf
    rw [List.map_map] at q
    exact q
  have hsz : vs.length ≤ sizeLine := by
    rw [hvl, sizeLine_eq]
    rw [hn] at hb
    unfold scanBound at hb
    omega
  refine wpAny_bind (wpAny_newList ?_ hsz)
  have hoL : (s1.heap.push (seqObj "list" vs.toArray 0)).get? s1.heap.objs.size = some (seqObj "list" vs.toArray 0) := Heap.get?_push_size _ rfl
  refine wpAny_bind (wpAny_holding (wpAny_call_entry slot_list_sort ⟨_, hoL, rfl⟩ entry_list_sort (SrtO.list_sort_ord SrtO.swo_int hoL hsz (fun h2 => SrtO.ints_sortable hI h2) fun out hs hb2 => ⟨_, rfl, ?_⟩) (args_list_sort _)))
  obtain ⟨b1, b2, b3⟩ := SrtO.ints_out hI hs hb2
  obtain ⟨c, hc⟩ := sortedHeap_at (vs := vs) (out := out.toArray) hoL
  have pn : (out.map SrtO.iv).Perm (es.toList.map keyOf) := b2.trans pk
  refine wpAny_pure ⟨_, rfl, hQ _ s1.heap.objs.size out.toArray c (out.map SrtO.iv) (fun b u e => ?_) g1 o1 hz hc (by simpa using b1) (lt_of_le_nodup _ b3 (pn.nodup_iff.mpr nd)) (fun k => by rw [pn.mem_iff, ← hm k]) ?_⟩
  · have q := k1 b u e
    have hlt := Heap.lt_size q
    show (sortedHeap (s1.heap.push (seqObj "list" vs.toArray 0)) s1.heap.objs.size vs out.toArray).get? b = some u
    rw [sortedHeap_old (Nat.ne_of_lt hlt) (by rw [size_push']; exact Nat.lt_succ_of_lt hlt)]
    exact Heap.get?_push_of_some _ q
  · rw [pn.length_eq, List.length_map, Array.length_toList]; exact hn
end
end MPS

end
section
set_option linter.all false
set_option Elab.async false
set_option maxRecDepth 100000
set_option maxHeartbeats 4000000
/-! sorted(set(..)): the construct. -/
namespace MPS
open PySem PySem.Spec PyProof.Rows L2
def rSetL (K : PySem.W.Frag) (w : World) : List V → Hp → VK → Prop := fun xs H Q => ∃ (l : Addr) (ns : List Int), xs = [V.ref l] ∧ SqL K H l (ns.map V.int) ∧ ns.length < 4000 ∧
  ∀ (p : Addr) (c : Nat), H p = none → Q (.ref p) (upd H p (SetO w p (fun j => decide (j ∈ ns)) c))
def rSortS (w : World) : List V → Hp → VK → Prop := fun vs H Q => ∃ (a : Addr) (S : Int → Bool) (n : Nat), vs = [V.ref a] ∧ H a = some (SetO w a S n) ∧
  ∀ (ns : List Int) (p : Addr), ns.Pairwise (· < ·) → (∀ k : Int, k ∈ ns ↔ S k = true) → ns.length = n → H p = none → Q (.ref p) (upd H p (.lst (ns.map V.int)))
section
variable {X : Cx}
theorem cr_setL (hc : X.calm = true) : CallR X (.type "set") (rSetL X.K X.w) := by
  intro pins s σ H vs us Q I r h
  obtain ⟨l, ns, rfl, hq, hl, q⟩ := h
  rw [Vals.ref1 r]
  obtain ⟨its, rv, pl, hz⟩ := I.list hq
  have hi : IntsAre its.toArray.toList ns := ints_of_vals rv
  refine set_lst ns (I.ok.hd hc) pl.isList hi (by unfold scanBound; omega) fun h' tk c R1 hcn k => ?_
  have hn : H s.heap.objs.size = none := I.hok.fresh (Nat.le_refl _)
  have J : Inv X pins σ (upd H s.heap.objs.size (SetO X.w s.heap.objs.size (fun j => decide (j ∈ ns)) c)) { s with heap := h', toks := tk } :=
    I.call (ch := []) (Un.laid k (Nat.le_refl _) hn) (I.hok.laid k (Nat.le_refl _) (setO_new R1)) I.bare (fun _ z => nomatch z)
  exact ⟨.ref _, _, J, rfl, q _ c hn⟩
theorem cr_sortS (hc : X.calm = true) : CallR X (.builtin "sorted") (rSortS X.w) := by
  intro pins s σ H vs us Q I r h
  obtain ⟨a, S, n, rfl, ha, q⟩ := h
  have R := setO_get I ha
  rw [Vals.ref1 r]
  refine sorted_any R (I.ok.hd hc) fun s' p out c ns k g o hp hg hi hs hm hl => ?_
  have hlen : (ns.map V.int).length ≤ sizeLine := by
    have hb : n < scanBound := by
      obtain ⟨_, _, _, _, _, _, _, _, _, _, hb, _, hn, _⟩ := R
      rw [← hn]; exact hb
    unfold scanBound at hb
    rw [List.length_map, hl, sizeLine_eq]; omega
  have hn : H p = none := I.hok.fresh hp
  have J : Inv X pins σ (upd H p (.lst (ns.map V.int))) { s with heap := s'.heap, gens := s'.gens, drawn := s'.drawn, toks := s'.toks } :=
    I.call (ch := []) (Un.laid k hp hn) (I.hok.laid k hp ⟨hlen, out.toList, c, vals_of_ints hi, hg⟩) (by rw [g]; exact I.bare) (fun _ z => nomatch z)
  have e : s' = { s with heap := s'.heap, gens := s'.gens, drawn := s'.drawn, toks := s'.toks } := by
    cases s'
    cases s
    cases o
    rfl
  rw [e]
  exact ⟨.ref p, _, J, rfl, q ns p hs hm hl hn⟩
end
end MPS
namespace MP
open PySem PySem.Spec PyProof.Rows L2
theorem mem_insI {x k : Int} : ∀ {l : List Int}, k ∈ insI x l ↔ k = x ∨ k ∈ l
  | [] => by simp [insI]
  | y :: r => by
    unfold insI
    split
    · simp
    · split
      · rename_i h; subst h; simp
      · simp [mem_insI (l := r)]; constructor <;> (intro h; rcases h with h | h | h <;> simp [h])
theorem mem_sortI {k : Int} : ∀ {l : List Int}, k ∈ sortI l ↔ k ∈ l
  | [] => by simp [sortI]
  | x :: r => by rw [sortI, mem_insI, mem_sortI (l := r)]; simp
theorem insI_sorted {x : Int} : ∀ {l : List Int}, l.Pairwise (· < ·) → (insI x l).Pairwise (· < ·)
  | [], _ => by simp [insI]
  | y :: r, h => by
    obtain ⟨h1, h2⟩ := List.pairwise_cons.mp h
    unfold insI
    split
    · rename_i hx
      exact List.pairwise_cons.mpr ⟨fun z hz => by
        rcases List.mem_cons.mp hz with rfl | hz
        · exact hx
        · exact Int.lt_trans hx (h1 z hz), h⟩
    · split
      · exact h
      · refine List.pairwise_cons.mpr ⟨fun z hz => ?_, insI_sorted h2⟩
        rcases mem_insI.mp hz with rfl | hz
        · omega
        · exact h1 z hz
theorem sortI_sorted : ∀ (l : List Int), (sortI l).Pairwise (· < ·)
  | [] => .nil
  | x :: r => insI_sorted (sortI_sorted r)
theorem sorted_ext : ∀ {l m : List Int}, l.Pairwise (· < ·) → m.Pairwise (· < ·) → (∀ k, k ∈ l ↔ k ∈ m) → l = m
  | [], [], _, _, _ => rfl
  | [], y :: r, _, _, h => absurd ((h y).mpr (by simp)) (by simp)
  | x :: l, [], _, _, h => absurd ((h x).mp (by simp)) (by simp)
  | x :: l, y :: m, h1, h2, h => by
    obtain ⟨a1, a2⟩ := List.pairwise_cons.mp h1
    obtain ⟨b1, b2⟩ := List.pairwise_cons.mp h2
    have e : x = y := by
      rcases List.mem_cons.mp ((h x).mp (by simp)) with e | e
      · exact e
      · rcases List.mem_cons.mp ((h y).mpr (by simp)) with e' | e'
        · exact e'.symm
        · have p := b1 x e
          have q := a1 y e'
          omega
    subst e
    rw [sorted_ext a2 b2 fun k => ?_]
    constructor
    · intro hk
      rcases List.mem_cons.mp ((h k).mp (by simp [hk])) with e | e
      · have := a1 k hk; omega
      · exact e
    · intro hk
      rcases List.mem_cons.mp ((h k).mpr (by simp [hk])) with e | e
      · have := b1 k hk; omega
      · exact e
section
variable {X : Cx} {cn : Program × World × Oa} {W : WX} {e a b c : Expr} {pos p q p2 : Pos} {f f' f'' : En → Out (R × En)}
theorem s_sset (hcalm : X.calm = true) (hg : Gl X "sorted") (hm : X.mg "sorted" = none) (hg2 : Gl X "set") (hm2 : X.mg "set" = none) (ha : PE X a (tE X.K cn W f))
    (hs1 : starEach [a] X.env = [(false, eval a X.env)]) (hs2 : starEach [.Call (.Name "set" p2) [a] [] q] X.env = [(false, eval (.Call (.Name "set" p2) [a] [] q) X.env)]) :
    PE X (.Call (.Name "sorted" p) [.Call (.Name "set" p2) [a] [] q] [] pos) (tE X.K cn W fun env => (f env).bind fun (x, env) => (bsset x.d).bind fun r => .ok (r, env)) := by
  have h1 := pe_callTy (p := p2) (pos := q) (MPS.cr_setL hcalm) hg2 hm2 PyProof.Rows.boot_set (pa_cons ha pa_nil hs1) (by decide) (by decide) hs1 rfl
  refine PE.weak (pe_callB (p := p) (pos := pos) (MPS.cr_sortS hcalm) hg hm (boot_sorted) (pa_cons h1 pa_nil hs2) (by decide) (by decide) hs2 rfl) fun σ H Q ⟨Z, F, ρ, S, q⟩ => ?_
  refine tE.seq S q fun r ρ1 v F1 H1 s1 S1 rx q1 => ?_
  obtain ⟨r2, h2, q2⟩ := Post.bind0 q1 (fun e => bi_noerr (k := .sset) (ds := [r.d]))
  unfold bsset at h2
  split at h2
  · rename_i ds ed
    rw [ed] at rx
    split at h2
    · rename_i l el
      split at h2
      · rename_i hl
        cases h2
        obtain ⟨p0, xs, rfl, g1, g2⟩ := rx.inv_lst
        have := intsD_of el g2
        subst this
        refine ⟨p0, l, rfl, SqL.of (S1.fh _ _ g1), hl, fun p c hp => ⟨p, _, _, rfl, upd_same, fun ns p3 k1 k2 k3 hp3 => ?_⟩⟩
        have en : ns = sortI l := sorted_ext k1 (sortI_sorted l) fun k => by rw [k2, mem_sortI, decide_eq_true_eq]
        rw [en]
        have S2 := S1.new hp (SetO X.w p (fun j => decide (j ∈ l)) c)
        have := RR.new_lst S2 hp3 (RpL.ints (sortI l))
        exact q2 _ F1 _ s1 (S2.new hp3 _) this
      · cases h2
    · cases h2
  · cases h2
end
end MP

end
section
set_option linter.all false
set_option Elab.async false
set_option maxRecDepth 100000
set_option maxHeartbeats 4000000
/-! A display {'a': 1, ..}. -/
namespace MP
open PySem PySem.Spec PyProof.Rows L2
theorem mergeK_nodup : ∀ (kvs acc : List (Key × V)), (kvs.map (·.1)).Nodup → (∀ p ∈ kvs, ∀ q ∈ acc, q.1 ≠ p.1) → mergeK acc kvs = acc ++ kvs
  | [], acc, _, _ => by simp [mergeK]
  | p :: r, acc, hn, hd => by
    have hn' := List.nodup_cons.mp (show (p.1 :: r.map (·.1)).Nodup from hn)
    have e : putK acc p.1 p.2 = acc ++ [p] := by
      unfold putK
      rw [if_neg]
      intro h
      obtain ⟨q, hq, e⟩ := List.any_eq_true.mp h
      exact hd p (by simp) q hq (of_decide_eq_true e)
    show mergeK (putK acc p.1 p.2) r = _
    rw [e, mergeK_nodup r (acc ++ [p]) hn'.2 ?_]
    · simp
    · intro x hx q hq
      rcases List.mem_append.mp hq with hq | hq
      · exact hd x (by simp [hx]) q hq
      · have : q = p := by simpa using hq
        subst this
        intro z
        exact hn'.1 (List.mem_map.mpr ⟨x, hx, z.symm⟩)
def kvE : List (Str × Int) → List (Option Expr) → List Expr → Prop
  | [], [], [] => True
  | (k, n) :: r, some (.Constant (.str k') _ _) :: ks, .Constant (.int n') _ _ :: vs => k = k' ∧ n = n' ∧ kvE r ks vs
  | _, _, _ => False
section
variable {X : Cx} {cn : Program × World × Oa} {W : WX} {pos : Pos}
abbrev trs (kvs : List (Str × Int)) : List (TE × TE) := kvs.map fun p => (tC (.str p.1), tC (.int p.2))
theorem kvE_pps : ∀ {kvs : List (Str × Int)} {ks : List (Option Expr)} {vs : List Expr}, kvE kvs ks vs → PPs X pos ks vs (trs kvs) ∧ ks.all (·.isSome) = true ∧ ks.length = kvs.length ∧ vs.length = kvs.length
  | [], [], [], _ => ⟨pps_nil, rfl, rfl, rfl⟩
  | (k, n) :: r, some (.Constant (.str k') _ _) :: ks, .Constant (.int n') _ _ :: vs, h => by
    obtain ⟨rfl, rfl, h⟩ := h
    obtain ⟨h1, h2, h3, h4⟩ := kvE_pps (kvs := r) (ks := ks) (vs := vs) h
    exact ⟨pps_cons pe_str pe_int h1, by simpa using h2, by simp [h3], by simp [h4]⟩
  | [], [], _ :: _, h => h.elim
  | [], _ :: _, _, h => by cases h
theorem pairs_ok (σ : L2.St) : ∀ (kvs : List (Str × Int)) (H : Hp) (Q : List (V × V) → Hp → Prop), Q (kvs.map fun p => (V.str p.1, V.int p.2)) H → tPairs (trs kvs) σ H Q
  | [], H, Q, h => h
  | (k, n) :: r, H, Q, h => pairs_ok σ r H (fun ps H3 => Q ((V.str k, V.int n) :: ps) H3) h
theorem upd2 {H : Hp} {p : Addr} {a b : HO} : L2.upd (L2.upd H p a) p b = L2.upd H p b := by
  funext x
  by_cases e : x = p
  · subst e; rw [upd_same, upd_same]
  · rw [upd_ne e, upd_ne e, upd_ne e]
theorem s_ddisp {kvs : List (Str × Int)} {ks : List (Option Expr)} {vs : List Expr} (h : kvE kvs ks vs) (h0 : kvs ≠ []) (h15 : kvs.length ≤ 15) (hn : (kvs.map (·.1)).Nodup) :
    PE X (.Dict ks vs pos) (tE X.K cn W fun env => .ok (.v (.dic kvs), env)) := by
  obtain ⟨h1, h2, h3, h4⟩ := kvE_pps (X := X) (pos := pos) h
  refine PE.weak (pe_disp h1 h2 (h3.trans h4.symm) (fun e => h0 (List.eq_nil_of_length_eq_zero (by rw [← h3, e]; rfl))) (by omega)) fun σ H Q ⟨Z, F, ρ, S, q⟩ p hp => ?_
  refine pairs_ok σ kvs _ _ ⟨upd_same, dicV kvs, ?_, by simpa [dicV] using h15, ?_⟩
  · rw [dicV, List.map_map]; rfl
  · rw [mergeK_nodup _ _ ?_ (fun _ _ q hq => by simp at hq), List.nil_append, upd2]
    · exact q _ _ _ (S.subT hp _) (S.newT hp (.dK (dicV kvs))) (.dic upd_same)
    · rw [dicV, List.map_map]
      show (kvs.map fun p => (Sum.inr p.1 : Key)).Nodup
      have q1 : ((kvs.map (·.1)).map (fun x : Str => (Sum.inr x : Key))).Pairwise (· ≠ ·) := List.Pairwise.map _ (S := (· ≠ ·)) (fun a b hab e => hab (Sum.inr.inj e)) hn
      rw [List.map_map] at q1
      exact q1
end
end MP

end
section
set_option linter.all false
set_option Elab.async false
set_option maxRecDepth 100000
set_option maxHeartbeats 4000000
/-! A table of the module: texts to numbers. -/
namespace MP
open PySem PySem.Spec PyProof.Rows L2
abbrev EsOk : List DictEntry → List (Str × Int) → Prop := Paired fun e p => (∃ t, e.key = .str p.1 t) ∧ ∃ t, e.val = .int p.2 t
def TabOk (K : PySem.W.Frag) (w : World) (d : Addr) (kvs : List (Str × Int)) : Prop := ∃ es n, KDict K w d es n ∧ EsOk es.toList kvs
theorem go_ok : ∀ {es : List DictEntry} {kvs : List (Str × Int)}, tabB.go es kvs = true → EsOk es kvs
  | [], [], _ => .nil
  | e :: es, p :: ps, h => by
    unfold tabB.go at h
    rw [Bool.and_eq_true] at h
    obtain ⟨h1, h2⟩ := h
    refine .cons ?_ (go_ok h2)
    split at h1
    · rename_i x t i t' e1 e2
      rw [Bool.and_eq_true, decide_eq_true_eq, decide_eq_true_eq] at h1
      exact ⟨⟨t, by rw [e1, h1.1]⟩, ⟨t', by rw [e2, h1.2]⟩⟩
    · cases h1
  | [], _ :: _, h => by cases h
  | _ :: _, [], h => by cases h
theorem tabOk_of {K : PySem.W.Frag} {w : World} {d : Addr} {kvs : List (Str × Int)} (h : tabB K d kvs = true) {es : Array DictEntry} {n : Nat} (D : KDict K w d es n) : TabOk K w d kvs := by
  refine ⟨es, n, D, ?_⟩
  unfold tabB at h
  rw [D.at_] at h
  exact go_ok h
theorem es_find {z : Str} : ∀ {es : List DictEntry} {kvs : List (Str × Int)}, EsOk es kvs → (es.any (·.refKey)) = false ∧ ((look kvs z = none ∧ es.find? (·.key.isStr z) = none) ∨ ∃ i e t, look kvs z = some i ∧ es.find? (·.key.isStr z) = some e ∧ e.val = .int i t)
  | _, _, .nil => ⟨rfl, .inl ⟨rfl, rfl⟩⟩
  | _, _, @Paired.cons _ _ _ e p es ps h t => by
    obtain ⟨⟨t1, h1⟩, t2, h2⟩ := h
    obtain ⟨a, b⟩ := es_find (z := z) t
    refine ⟨by rw [List.any_cons, a]; simp [DictEntry.refKey, h1], ?_⟩
    rw [List.find?_cons]
    unfold look
    have e1 : e.key.isStr z = decide (p.1 = z) := by
      rw [h1]
      show (p.1 == z) = _
      rw [Bool.beq_eq_decide_eq]
    rw [e1]
    by_cases q : p.1 = z
    · rw [if_pos q, decide_eq_true q]; exact .inr ⟨_, _, t2, rfl, rfl, h2⟩
    · rw [if_neg q, decide_eq_false q]; exact b
theorem TabOk.at {K : PySem.W.Frag} {w : World} {d : Addr} {kvs : List (Str × Int)} (h : TabOk K w d kvs) (z : Str) : ∃ es n r, KDict K w d es n ∧ PySem.W.nsIn K d z = some r ∧ ((look kvs z = none ∧ r = none) ∨ ∃ i t, look kvs z = some i ∧ r = some (.int i t)) := by
  obtain ⟨es, n, D, E⟩ := h
  obtain ⟨a, b⟩ := es_find (z := z) E
  rcases b with ⟨b1, b2⟩ | ⟨i, e, t, b1, b2, b3⟩
  · refine ⟨es, n, none, D, ?_, .inl ⟨b1, rfl⟩⟩
    unfold PySem.W.nsIn
    rw [D.at_]
    simp only [b2, a]
    rfl
  · refine ⟨es, n, some (.int i t), D, ?_, .inr ⟨i, t, b1, rfl⟩⟩
    unfold PySem.W.nsIn
    rw [D.at_]
    simp only [b2, b3]
section
variable {X : Cx} {cn : Program × World × Oa} {W : WX} {e a b c o : Expr} {pos p apos : Pos} {f f' f'' : En → Out (R × En)}
theorem kd_get2 {pins : List (Addr × Obj)} {σ : L2.St} {H : Hp} {s : Shared} {A : Around} {E : Value → Shared → Prop} {d : Addr} {es : Array DictEntry} {n : Nat} {z : Str} {t : Tok} {r : Option Value} {u : Value} {Q : Value → Shared → Prop} (I : Inv X pins σ H s) (D : KDict X.K X.w d es n)
    (hr : PySem.W.nsIn X.K d z = some r) (h : ∀ s', Inv X pins σ H s' → Q (r.getD u) s') : wpAny (model X.prog X.w) A (PySem.call (.builtin "dict.get") [.ref d, .str z t, u]) Q E s := by
  have m := PySem.W.mapOf_K (prog := X.prog) (w := X.w) I.kIn D.at_ D.lit
  refine call_meetsIn PySem.F.slot_dict_get m.typeIs PySem.F.entry_dict_get (PySem.F.args_dict_get_3 _ _ _) (meets_dict_get_default (strKind X.prog X.w) d (PySem.strKind_is X.prog X.w z t) D.low u) ⟨_, m, ?_⟩
  rw [PySem.W.find_K D.at_ hr]
  exact h _ (I.tok _)
theorem s_kget {d : Addr} {kvs : List (Str × Int)} (hT : TabOk X.K X.w d kvs) (ho : PE X o (tC (.ref d))) (ha : PE X a (tE X.K cn W f')) (hb : PE X b (tE X.K cn W f'')) (m : M2 X o "get" apos a b pos) :
    PE X (.Call (.Attribute o "get" apos) [a, b] [] pos) (tE X.K cn W fun env => (f' env).bind fun (x, env) => (f'' env).bind fun (y, env) => (match x.d with
        | .str z => .ok (.v (match look kvs z with | some n => .int n | none => y.d), env)
        | _ => .bad)) := by
  refine ⟨fun pins s σ H Q I h => ?_⟩
  obtain ⟨Z, F, ρ, S, q⟩ := h
  refine wpAny_Call_method m.base m.few m.line PySem.F.plainAttrs_dict PySem.F.slot_dict_get PySem.F.type_dict_get (thn (ho.run pins s σ H (fun x H1 => x = .ref d ∧ H1 = H) I ⟨rfl, rfl⟩) fun u s1 ⟨x, H1, I1, rx, ex, eH⟩ => ?_)
  subst ex
  subst eH
  obtain rfl : u = Value.ref d := rx
  obtain ⟨es, n, D, E⟩ := id hT
  have mm := PySem.W.mapOf_K (prog := X.prog) (w := X.w) I1.kIn D.at_ D.lit
  refine ⟨mm.typeIs, fun b q => by cases q; exact ⟨_, I1.kIn _ _ D.at_, rfl⟩, ?_⟩
  rw [m.trees]
  have go := tE.seq (W := W) (Q := fun x H2 => tE X.K cn W f'' σ H2 fun y H3 => ∃ z, x = .str z ∧ ∀ r : Option V, ((look kvs z = none ∧ r = none) ∨ ∃ i, look kvs z = some i ∧ r = some (.int i)) → Q (r.getD y) H3) S q fun r ρ1 v F1 H1 s1 S1 rx q1 => tE.seq S1 q1 fun r2 ρ2 u F2 H2 s2 S2 ry q2 => by
    dsimp only at q2
    generalize r.d = dd at rx q2
    cases rx <;> first | exact q2.elim | skip
    rename_i z
    refine ⟨z, rfl, fun r hr => ?_⟩
    dsimp only at q2
    rcases hr with ⟨h1, rfl⟩ | ⟨i, h1, rfl⟩
    · rw [h1] at q2; exact q2 u F2 H2 (s1.trans s2) S2 ry
    · rw [h1] at q2; exact q2 _ F2 H2 (s1.trans s2) S2 (.int i)
  refine Calls.callWith_builtin rfl (Calls.evalArgs_plain (Calls.spliced_cons (thn (ha.run pins s1 σ H1 _ I1 go) fun iv s2 ⟨y, H2, I2, ry, q2⟩ =>
    Calls.spliced_cons (thn (hb.run pins s2 σ H2 _ I2 q2) fun fv s3 ⟨w3, H3, I3, rz, z, ey, q3⟩ => Calls.spliced_nil ?_))))
  subst ey
  obtain ⟨t, rfl⟩ := ry
  obtain ⟨es', n', r, D', hr, cs⟩ := hT.at z
  refine kd_get2 I3 D' hr fun s4 I4 => ?_
  rcases cs with ⟨h1, rfl⟩ | ⟨i, t', h1, rfl⟩
  · exact ⟨w3, H3, I4, rz, q3 none (.inl ⟨h1, rfl⟩)⟩
  · exact ⟨.int i, H3, I4, ⟨t', rfl⟩, q3 (some (.int i)) (.inr ⟨i, h1, rfl⟩)⟩
theorem op_kin {d : Addr} {kvs : List (Str × Int)} (hT : TabOk X.K X.w d kvs) : OpR X (compareOp .In) (fun x y H Q => ∃ z : Str, x = .str z ∧ y = .ref d ∧ Q (.bl (look kvs z).isSome) H) := by
  intro pins s σ H x y v u Q I rx ry h
  obtain ⟨z, rfl, rfl, q⟩ := h
  obtain ⟨es', n', r, D', hr, cs⟩ := hT.at z
  refine op_in_kd D' pins s σ H _ _ v u Q I rx ry ⟨z, r, rfl, rfl, hr, ?_⟩
  rcases cs with ⟨h1, rfl⟩ | ⟨i, t', h1, rfl⟩ <;> rw [h1] at q <;> exact q
theorem op_knotin {d : Addr} {kvs : List (Str × Int)} (hT : TabOk X.K X.w d kvs) : OpR X (compareOp .NotIn) (fun x y H Q => ∃ z : Str, x = .str z ∧ y = .ref d ∧ Q (.bl (!(look kvs z).isSome)) H) := by
  intro pins s σ H x y v u Q I rx ry h
  obtain ⟨z, rfl, rfl, q⟩ := h
  obtain ⟨es', n', r, D', hr, cs⟩ := hT.at z
  refine op_notIn_kd D' pins s σ H _ _ v u Q I rx ry ⟨z, r, rfl, rfl, hr, ?_⟩
  rcases cs with ⟨h1, rfl⟩ | ⟨i, t', h1, rfl⟩ <;> rw [h1] at q <;> exact q
theorem ix_kd {d : Addr} {kvs : List (Str × Int)} (hT : TabOk X.K X.w d kvs) : IxR X (fun x y H Q => ∃ (z : Str) (i : Int), x = .ref d ∧ y = .str z ∧ look kvs z = some i ∧ Q (.int i) H) := by
  intro value slice pins s σ H x y v u Q I rx ry h hs
  obtain ⟨z, i, rfl, rfl, hl, q⟩ := h
  obtain ⟨es', n', r, D', hr, cs⟩ := hT.at z
  cases rx
  rcases cs with ⟨h1, rfl⟩ | ⟨j, t', h1, rfl⟩
  · rw [h1] at hl; cases hl
  · rw [h1] at hl; cases hl
    have mm := PySem.W.mapOf_K (prog := X.prog) (w := X.w) I.kIn D'.at_ D'.lit
    refine tail_any mm.typeIs PySem.F.slot_dict_getitem.lookup ?_ hs
    exact op_item_kd D' pins s σ H (.ref d) (.str z) (.ref d) u Q I rfl ry ⟨z, _, .int i, rfl, rfl, hr, ⟨t', rfl⟩, q⟩
end
end MP

end
section
set_option linter.all false
set_option Elab.async false
set_option maxRecDepth 100000
set_option maxHeartbeats 4000000
/-! From the text to the small language. -/
namespace MP
open PySem PySem.Spec PyProof.Rows L2

/-- what is known of a def and the module: its names, its own lists and dicts; constants, defs, tables, free built-ins, error classes -/
structure Gs where
  N : List Str
  own : List Nat
  dic : List Nat
  con : List (Str × D)
  fns : List (Str × Bool)
  tabs : List (Str × List (Str × Int))
  free : List Str
  exs : List Str
  err : List (Str × Str) := []
  lam : Bool := false
  vals : List Str := []
def isLoc (sc : Scope) (x : Str) : Bool := match sc.names.lookup x with
  | some .local | some .cell | some .free => true
  | _ => false
def isGlob (sc : Scope) (x : Str) : Bool := match sc.names.lookup x with
  | some .globalImplicit => true
  | _ => false
def okName (x : Str) : Bool := !(x == ("__debug__" : Str)) && !(x == ("__classdict__" : Str)) && !(x == ("__name__" : Str))
def idx (x : Str) : List Str → Nat → Option Nat
  | [], _ => none
  | y :: r, n => if y = x then some n else idx x r (n + 1)
def slot (g : Gs) (sc : Scope) (x : Str) : Option Nat := if isLoc sc x && okName x then idx x g.N 0 else none
def mapE (f : Expr → Option ME) : List Expr → Option MEs
  | [] => some .nil
  | e :: es => (match f e, mapE f es with
    | some a, some b => some (.cons a b)
    | _, _ => none)
def starB : Expr → Bool
  | .Starred .. => true
  | _ => false
def setB : Expr → Bool
  | .Set .. => true
  | _ => false
def sliceB : Expr → Bool
  | .Slice .. => true
  | _ => false
def compB : Expr → Bool
  | .ListComp .. | .SetComp .. | .DictComp .. => true
  | _ => false
def callB : Expr → Bool
  | .Call .. => true
  | _ => false
def tyOf (x : Str) : Option Ty :=
  if x = ("int" : Str) then some .int else if x = ("bool" : Str) then some .bool else if x = ("str" : Str) then some .str
  else if x = ("tuple" : Str) then some .tuple else if x = ("list" : Str) then some .list else none
def op2Of : Operator → Option Op2
  | .Add => some .add | .Sub => some .sub | .Mult => some .mul | .FloorDiv => some .fdiv | .Mod => some .mod | .Pow => some .pow
  | _ => none
def coOf : CmpOp → CO
  | .Eq => .eq | .NotEq => .ne | .Lt => .lt | .LtE => .le | .Gt => .gt | .GtE => .ge
  | .Is => .is_ | .IsNot => .isnot | .In => .in_ | .NotIn => .notin
def cvtg (g : Gs) (sc : Scope) (sto : Str → Bool) : Nat → Expr → Option Tg
  | n + 1, .Name x _ => if sto x then (match sc.names.lookup x with
      | some .local | some .cell => (slot g sc x).map .nm
      | _ => none) else none
  | n + 1, .Tuple [a, b] _ _ => (match cvtg g sc sto n a, cvtg g sc sto n b with
    | some x, some y => some (.tp2 x y)
    | _, _ => none)
  | n + 1, .Tuple [a, b, c] _ _ => (match cvtg g sc sto n a, cvtg g sc sto n b, cvtg g sc sto n c with
    | some x, some y, some z => some (.tp3 x y z)
    | _, _, _ => none)
  | _, _ => none
def ownNames (g : Gs) (sc : Scope) : List (Str × Nat) := sc.names.filterMap fun (x, k) => match k with
  | .local | .cell => (idx x g.N 0).map fun i => (x, i)
  | _ => none
/-- a global name, of this world -/
def gl (sc : Scope) (x : Str) : Bool := isGlob sc x && okName x
def tabOf (g : Gs) (sc : Scope) : Expr → Option (List (Str × Int))
  | .Name x _ => if gl sc x then g.tabs.lookup x else none
  | _ => none
def blt (g : Gs) (sc : Scope) (x : Str) (y : String) : Bool := gl sc x && g.free.contains x && decide (x = PySem.Str.ofString y)
def cvName (g : Gs) (sc : Scope) (x : Str) : Option ME := match slot g sc x with
  | some i => some (.var i)
  | none => if gl sc x then (match g.con.lookup x with
      | some d => some (.con d)
      | none => if g.vals.contains x && decide (g.fns.lookup x = some false) then some (.con (.fn x)) else none) else none
def cvConst : PySem.Const → Option ME
  | .none => some (.con .non)
  | .bool b => some (.con (.bl b))
  | .int i => some (.con (.int i))
  | .str x => some (.con (.str x))
  | _ => none
section
variable (g : Gs) (sc : Scope) (rec : Expr → Option ME)
def cvCmp (a : Expr) (op : CmpOp) (b : Expr) : Option ME := if setB b then none else match tabOf g sc b with
  | some kvs => (match op with
    | .In => (rec a).map (.kin false kvs)
    | .NotIn => (rec a).map (.kin true kvs)
    | _ => none)
  | none => (match rec a, rec b with
    | some x, some y => some (.cmp (coOf op) x y)
    | _, _ => none)
def cvChain (a : Expr) (op op' : CmpOp) (b c : Expr) : Option ME := if setB b || setB c then none else match rec a, rec b, rec c with
  | some x, some y, some z => some (.chain (coOf op) (coOf op') x y z)
  | _, _, _ => none
def nameSlot : Expr → Option Nat
  | .Name v _ => slot g sc v
  | _ => none
def cvSubP (a : Expr) (i : Expr) : Option ME := match nameSlot g sc a, tabOf g sc a with
  | some s, _ => if g.dic.contains s then (rec i).map (.dix s) else (rec i).map (.ixv s)
  | none, some kvs => (rec i).map (.kix kvs)
  | none, none => (match rec a, rec i with
      | some x, some y => some (.ix x y)
      | _, _ => none)
/-- -1, written -/
def m1 : Expr → Bool
  | .UnaryOp .USub (.Constant (.int n) _ _) _ => decide (n = 1)
  | _ => false
def cvSub (reco : Option Expr → Option MO) (a : Expr) (i : Expr) : Option ME := match i with
  | .Slice lo hi none _ => (match rec a, reco lo, reco hi with
    | some x, some l, some h => some (.sl x l h)
    | _, _, _ => none)
  | .Slice lo hi (some st) _ => if lo.isNone && hi.isNone && m1 st then (rec a).map .rev else none
  | i => cvSubP g sc rec a i
def bi1Of (x : Str) : Option BI :=
  if x = ("len" : Str) then some .len else if x = ("abs" : Str) then some .abs else if x = ("int" : Str) then some .int else if x = ("bool" : Str) then some .bool
  else if x = ("str" : Str) then some .str else if x = ("list" : Str) then some .list else if x = ("tuple" : Str) then some .tuple else if x = ("sum" : Str) then some .sum else none
def bi2Of (x : Str) : Option BI := if x = ("max" : Str) then some .max2 else if x = ("min" : Str) then some .min2 else none
def setArg : Expr → Option Expr
  | .Call (.Name y _) [b] [] _ => if blt g sc y "set" && !starB b then some b else none
  | _ => none
def tyArg : Expr → Option Ty
  | .Name t _ => if gl sc t && g.free.contains t then tyOf t else none
  | _ => none
def cvBlt (x : Str) (es : List Expr) : Option ME := match es with
  | [a] => (match nameSlot g sc a, setArg g sc a with
    | some i, _ => if decide (x = ("len" : Str)) then some (.lenv i) else if decide (x = ("list" : Str)) && g.dic.contains i then some (.dlist i) else (bi1Of x).map fun k => .bi k (.cons (.var i) .nil)
    | none, some b => if decide (x = ("sorted" : Str)) then (rec b).map fun y => .bi .sset (.cons y .nil) else none
    | none, none => (match bi1Of x, rec a with
      | some k, some y => some (.bi k (.cons y .nil))
      | _, _ => none))
  | [a, b] => if decide (x = ("isinstance" : Str)) then (match tyArg g sc b, rec a with
      | some t, some y => some (.isi [t] y)
      | _, _ => none)
    else (match bi2Of x, rec a, rec b with
      | some k, some y, some z => some (.bi k (.cons y (.cons z .nil)))
      | _, _, _ => none)
  | _ => none
def cvCallN (x : Str) (es : List Expr) : Option ME := match slot g sc x with
  | some i => if es.any starB || !(g.vals.all fun f => decide (g.fns.lookup f = some false)) then none else (match es with
    | a :: r => (match rec a, mapE rec r with
      | some y, some ys => some (.callv g.vals i (.cons y ys))
      | _, _ => none)
    | [] => none)
  | none => if !gl sc x || es.any starB then none else (match g.fns.lookup x, es with
    | some true, a :: r => (match nameSlot g sc a, mapE rec r with
      | some i, some xs => some (.callo x i xs)
      | _, _ => none)
    | some false, a :: r => (match rec a, mapE rec r with
      | some y, some ys => some (.call x (.cons y ys))
      | _, _ => none)
    | none, es => if g.free.contains x then cvBlt g sc rec x es else none
    | _, _ => none)
def cvMeth (o : Expr) (m : Str) (ap : Pos) (es : List Expr) (p : Pos) : Option ME :=
  if !(ap.endLine == p.line) || callB o || es.any starB then none else match es with
  | [a, b] => if decide (m = ("get" : Str)) then (match nameSlot g sc o, tabOf g sc o with
      | some i, _ => if g.dic.contains i then (match rec a, rec b with
        | some x, some y => some (.dget i x y)
        | _, _ => none) else none
      | none, some kvs => (match rec a, rec b with
        | some x, some y => some (.kget kvs x y)
        | _, _ => none)
      | none, none => (match rec o, rec a, rec b with
        | some z, some x, some y => some (.tget z x y)
        | _, _, _ => none)) else none
  | [] => if decide (m = ("upper" : Str)) then (rec o).map fun y => .bi .upper (.cons y .nil) else none
  | [a] => if decide (m = ("split" : Str)) then (match a with
      | .Constant (.str s) _ _ => (rec o).map fun y => .bi .split (.cons y (.cons (.con (.str s)) .nil))
      | _ => none)
    else if decide (m = ("join" : Str)) then (match o with
      | .Constant (.str s) _ _ => (rec a).map fun y => .bi .join (.cons (.con (.str s)) (.cons y .nil))
      | _ => none)
    else none
  | _ => none
def cvCall (f : Expr) (es : List Expr) (ks : List Keyword) (p : Pos) : Option ME := match f, ks with
  | .Name x _, [] => cvCallN g sc rec x es
  | .Attribute o m ap, [] => cvMeth g sc rec o m ap es p
  | _, _ => none
/-- no parameters -/
def noPar (a : Arguments) : Bool := match a with
  | ⟨[], [], none, [], [], none, []⟩ => true
  | _ => false
def hasOwn (sc : Scope) : Bool := sc.names.any fun y => decide (y.2 = .local) || decide (y.2 = .cell)
/-- a lambda handed to the def that tells errors -/
def cvLam (rec' : Scope → Expr → Option ME) (f : Expr) (es : List Expr) (ks : List Keyword) : Option ME := match f, es, ks with
  | .Name x _, [.Lambda params body lsc _], [] => (match g.err.lookup x with
    | some nf => if g.lam && hasOwn sc && gl sc x && noPar params && LamX.lamSB sc lsc then (rec' lsc body).map (.tryn nf) else none
    | none => none)
  | _, _, _ => none
def kvsOf : List (Option Expr) → List Expr → Option (List (Str × Int))
  | [], [] => some []
  | some (.Constant (.str k) _ _) :: ks, .Constant (.int n) _ _ :: vs => (kvsOf ks vs).map ((k, n) :: ·)
  | _, _ => none
def cvDict (ks : List (Option Expr)) (vs : List Expr) : Option ME := match kvsOf ks vs with
  | some kvs => if !kvs.isEmpty && decide (kvs.length ≤ 15) && decide ((kvs.map (·.1)).Nodup) then some (.ddisp kvs) else none
  | none => none
end
def cvSrc (g : Gs) (sc : Scope) (rec : Expr → Option ME) (e : Expr) : Option Src := if setB e then none else match e with
  | .Call (.Name f _) [a] [] _ => if blt g sc f "range" && !starB a then (rec a).map .r1 else (rec e).map .v
  | .Call (.Name f _) [a, b] [] _ => if blt g sc f "range" && !starB a && !starB b then (match rec a, rec b with | some x, some y => some (.r2 x y) | _, _ => none) else (rec e).map .v
  | _ => (rec e).map .v
def stoC (scope : Scope) (x : Str) : Bool := match scope.names.lookup x with | some .local | some .cell => true | _ => false
def cvComp (g : Gs) (sc : Scope) (rec : Expr → Option ME) (rec' : Scope → Expr → Option ME) (recc : Scope → List Expr → Option MC) (elt : Expr) (gens : List Comprehension) (scope : Scope) : Option ME := match gens with
  | [⟨tg, it, ifs, 0⟩] =>
        let sc' := relS scope sc
        let own := ownNames g scope
        if blkC g.N sc scope own && (!g.lam || hasOwn sc) then (match cvtg g sc' (stoC scope) 5 tg, cvSrc g sc rec it, recc sc' ifs, rec' sc' elt with
          | some t, some s, some c, some e => if (tgs t).all (fun i => (own.map (·.2)).contains i) then some (.comp t s c e (own.map (·.2))) else none
          | _, _, _, _ => none) else none
  | _ => none
mutual
def cv (g : Gs) : Nat → Scope → Expr → Option ME
  | 0, _, _ => none
  | n + 1, sc, e => match e with
    | .Name x _ => cvName g sc x
    | .Constant c _ _ => cvConst c
    | .Tuple es _ _ => if decide (es.length ≤ 1000) && !es.any starB then (mapE (cv g n sc) es).map .tup else none
    | .List es _ => if decide (es.length ≤ 1000) && !es.any starB then (mapE (cv g n sc) es).map .lst else none
    | .UnaryOp .USub a _ => (cv g n sc a).map .neg
    | .UnaryOp .Not a _ => (cv g n sc a).map .not
    | .BinOp a op b _ => (match op2Of op, cv g n sc a, cv g n sc b with
      | some o, some x, some y => some (.bin o x y)
      | _, _, _ => none)
    | .Compare a [op] [b] _ => cvCmp g sc (cv g n sc) a op b
    | .Compare a [op, op'] [b, c] _ => cvChain (cv g n sc) a op op' b c
    | .BoolOp .And [a] _ => cv g n sc a
    | .BoolOp .Or [a] _ => cv g n sc a
    | .BoolOp .And (a :: b :: r) p => (match cv g n sc a, cv g n sc (.BoolOp .And (b :: r) p) with
      | some x, some y => some (.and x y)
      | _, _ => none)
    | .BoolOp .Or (a :: b :: r) p => (match cv g n sc a, cv g n sc (.BoolOp .Or (b :: r) p) with
      | some x, some y => some (.or x y)
      | _, _ => none)
    | .IfExp c a b _ => (match cvt g n sc c, cv g n sc a, cv g n sc b with
      | some x, some y, some z => some (.ife x y z)
      | _, _, _ => none)
    | .Subscript a i _ => cvSub g sc (cv g n sc) (fun o => match o with | none => some .none | some e => (cv g n sc e).map .some) a i
    | .Call f es ks p => (match cvLam g sc (fun sc' e => cv g n sc' e) f es ks with
      | some r => some r
      | none => cvCall g sc (cv g n sc) f es ks p)
    | .Dict ks vs _ => cvDict ks vs
    | .ListComp elt gens scope _ => cvComp g sc (cv g n sc) (fun sc' e => cv g n sc' e) (fun sc' l => match l with | [] => some .none | [e] => (cvt g n sc' e).map .some | _ => none) elt gens scope
    | _ => none
def cvt (g : Gs) : Nat → Scope → Expr → Option MT
  | 0, _, _ => none
  | n + 1, sc, e => match e with
    | .BoolOp .And [a] _ => cvt g n sc a
    | .BoolOp .Or [a] _ => cvt g n sc a
    | .BoolOp .And (a :: b :: r) p => (match cvt g n sc a, cvt g n sc (.BoolOp .And (b :: r) p) with
      | some x, some y => some (.and x y)
      | _, _ => none)
    | .BoolOp .Or (a :: b :: r) p => (match cvt g n sc a, cvt g n sc (.BoolOp .Or (b :: r) p) with
      | some x, some y => some (.or x y)
      | _, _ => none)
    | .BoolOp .. => none
    | .UnaryOp .Not a _ => (cvt g n sc a).map .not
    | .IfExp .. => none
    | .Compare a [op] [b] _ => (cvCmp g sc (cv g n sc) a op b).map .v
    | .Compare a [op, op'] [b, c] _ => (cvChain (cv g n sc) a op op' b c).map .v
    | .Compare .. => none
    | e => (cv g n sc e).map .v
end
/-! ### statements -/
def allB (p : Stmt → Option MS) : List Stmt → Option MB
  | [] => some .nil
  | s :: r => (match p s, allB p r with
    | some a, some b => some (.cons a b)
    | _, _ => none)
def isKind (sc : Scope) (x : Str) (k : NameKind) : Bool := decide (sc.names.lookup x = some k)
/-- the names of a pair of stores that are exchanged -/
def parOk (g : Gs) (sc : Scope) (ts vs : List Expr) : Option (List (Nat × Bool)) :=
  if vs.all (foldedForSure 8) || vs.all (constantsAlone 8) || vs.any starB then none else match ts, vs with
  | [.Name x px, .Name y py], [_, _] => (match slot g sc x, slot g sc y with
    | some i, some j => if isKind sc x .local && isKind sc y .local && decide (px.line = py.line) && decide (x ≠ y) then some [(i, g.own.contains i), (j, g.own.contains j)] else none
    | _, _ => none)
  | [.Name x px, .Name y py, .Name z pz], [_, _, _] => (match slot g sc x, slot g sc y, slot g sc z with
    | some i, some j, some k => if isKind sc x .local && isKind sc y .local && isKind sc z .local && decide (px.line = py.line) && decide (px.line = pz.line) && decide (x ≠ y) && decide (x ≠ z) && decide (y ≠ z) then some [(i, g.own.contains i), (j, g.own.contains j), (k, g.own.contains k)] else none
    | _, _, _ => none)
  | _, _ => none
/-- .. that go by a tuple -/
def tupOk (sc : Scope) (ts : List Expr) (v : Expr) : Bool := match v with
  | .Tuple vs _ _ => vs.all (foldedForSure 8) || (!vs.any starB && decide (vs.length = ts.length) && ts.any fun t => match t with
    | .Name x _ => !isKind sc x .local
    | _ => true)
  | _ => true
def exOk (g : Gs) (sc : Scope) : Expr → Option Str
  | .Call (.Name x _) [.Constant (.str _) _ _] [] _ => if gl sc x && g.exs.contains x then some x else none
  | _ => none
def appOk (g : Gs) (sc : Scope) : Expr → Option (Nat × Expr)
  | .Call (.Attribute (.Name o _) m ap) [a] [] p => if decide (m = ("append" : Str)) && (ap.endLine == p.line) && !starB a then (slot g sc o).map fun i => (i, a) else none
  | _ => none
def docB : Expr → Bool
  | .Constant (.str _) _ _ => true
  | _ => false
def eDict : Expr → Bool
  | .Dict [] [] _ => true
  | _ => false
def fuelE : Nat := 40
def cvS (g : Gs) (sc : Scope) : Nat → Stmt → Option MS
  | 0, _ => none
  | n + 1, st => match st with
    | .Pass _ => some .pass
    | .Expr e _ => if docB e then some .pass else (match appOk g sc e with
      | some (i, a) => (cv g fuelE sc a).map (.app i)
      | none => if compB e then none else (cv g fuelE sc e).map .expr)
    | .Assign [.Name x _] e _ => (match slot g sc x with
      | some i => if !(isKind sc x .local || isKind sc x .cell) then none else if eDict e then (if g.dic.contains i then some (.dnew i) else none) else (cv g fuelE sc e).map (.asg i (g.own.contains i))
      | none => none)
    | .Assign [.Tuple ts k pt] v _ => (match v with
      | .Tuple vs _ _ => (match parOk g sc ts vs, mapE (cv g fuelE sc) vs with
        | some is, some es => some (.par is es)
        | _, _ => if tupOk sc ts v then (match cvtg g sc (fun _ => true) 5 (.Tuple ts k pt), cv g fuelE sc v with
          | some t, some e => some (.asgt t e)
          | _, _ => none) else none)
      | v => if compB v then none else (match cvtg g sc (fun _ => true) 5 (.Tuple ts k pt), cv g fuelE sc v with
          | some t, some e => some (.asgt t e)
          | _, _ => none))
    | .Assign [.Subscript (.Name x _) b _] e _ => (match slot g sc x with
      | some i => if compB e || sliceB b then none else if g.dic.contains i then (match cv g fuelE sc b, cv g fuelE sc e with
          | some k, some v => some (.dset i k v)
          | _, _ => none) else if g.own.contains i then (match cv g fuelE sc b, cv g fuelE sc e with
          | some k, some v => some (.setix i k v)
          | _, _ => none) else none
      | none => none)
    | .Return none _ => some .retn
    | .Return (some e) _ => (match nameSlot g sc e with
      | some i => some (.retv i)
      | none => (cv g fuelE sc e).map .ret)
    | .If c a b _ => (match cvt g fuelE sc c, allB (cvS g sc n) a, allB (cvS g sc n) b with
      | some x, some y, some z => some (.iff x y z)
      | _, _, _ => none)
    | .While c b [] _ => (match cvt g fuelE sc c, allB (cvS g sc n) b with
      | some x, some y => some (.whil x y)
      | _, _ => none)
    | .For tg it b [] _ => (match cvtg g sc (fun _ => true) 5 tg, cvSrc g sc (cv g fuelE sc) it, allB (cvS g sc n) b with
      | some t, some s, some y => some (.forr t s y)
      | _, _, _ => none)
    | .Raise (some e) none _ => (match exOk g sc e with
      | some x => some (.rais x)
      | none => some .never)
    | .Raise .. => some .never
    | _ => none
def cvD (g : Gs) (sc : Scope) (body : List Stmt) : Option MB := allB (cvS g sc 30) body
end MP

end
section
set_option linter.all false
set_option Elab.async false
set_option maxRecDepth 100000
set_option maxHeartbeats 4000000
/-! While an exception is handled: the ends of lists and tuples that are walked. -/
namespace MPH
open PySem PySem.Spec PyProof.Rows HotX
open Builtin
section
variable {prog : Program} {w : World} {A : Around} {E : Value → Shared → Prop} {s : Shared}
/-- a new StopIteration, chained to the handled one -/
theorem stop_hot {α : Type} {x1 : Addr} {Q : α → Shared → Prop} (hot : HotAt A x1 s.heap)
    (hE : ∀ h' e, (∀ b o, s.heap.get? b = some o → h'.get? b = some o) → (∃ o, h'.get? e = some o ∧ o.cls = .type "StopIteration") → E (.ref e) { s with heap := h' }) :
    wpAny (model prog w) A (newExc (.type "StopIteration") [] >>= fun e => (raiseNew e : Sem α)) Q E s := by
  obtain ⟨hh, oo, ws, g1, g2, g3⟩ := hot
  refine wpAny_bind ?_; simp only [newExc, newTuple]
  refine wpAny_bind (wpAny_newObj_type ?_ (by size_fits)); refine wpAny_bind (m := firstArgMember _ _) (wpAny_of_eq (a := Value.none) (by first | rfl | (simp only [firstArgMember]; rfl)) ?_)
  refine wpAny_newObj_type ?_ (by size_fits); refine raiseNew_hot ⟨hh, oo, ws, Heap.get?_push_of_some _ (Heap.get?_push_of_some _ g1), g2, g3⟩ (Nat.ne_of_lt (Heap.lt_size (Heap.get?_push_of_some _ g1))) (Heap.get?_push_size _ rfl) rfl (by first | (simp; done) | (simp; omega) | (simp only [Array.size_append]; simp; omega)) ?_
  refine hE _ _ (fun b o e => ?_) ⟨_, Heap.get?_update_self _ (Heap.get?_push_size _ rfl) rfl, rfl⟩
  rw [Heap.get?_update_other _ _ (Nat.ne_of_gt (Heap.lt_size (Heap.get?_push_of_some _ e)))]; exact Heap.get?_push_of_some _ (Heap.get?_push_of_some _ e)
theorem list_end_hot {it l x1 : Addr} {i : Nat} {xs : Array Value} {Q : Value → Shared → Prop} (hot : HotAt A x1 s.heap) (hn : x1 ≠ it) (hi : s.heap.IsListIter it l i) (hl : s.heap.IsList l xs) (hx : xs[i]? = none)
    (hE : ∀ h' e, Heap.ExtBut it s.heap h' → (∃ o, h'.get? e = some o ∧ o.cls = .type "StopIteration") → E (.ref e) { s with heap := h' }) : wpAny (model prog w) A (Builtin.SmallTypes.nextOf (.ref it)) Q E s := by
  obtain ⟨oi, gi, ci, di⟩ := id hi; obtain ⟨ol, gl, _, nl, dl⟩ := hl
  unfold Builtin.SmallTypes.nextOf; refine wpAny_bind (wpAny_callSpecial?_slot (name := Str.ofString "__next__") hi.typeIs slot_listiter_next (wpAny_call_entry slot_listiter_next hi.typeIs entry_listiter_next ?_ (args_listiter_next _)))
  show wpAny _ _ (field (.ref it) 0 >>= _) _ _ s; refine wpAny_bind (wpAny_field gi di (x := .ref l) rfl ?_)
  show wpAny _ _ (if (Value.ref l == Value.none) = true then _ else _) _ _ s; rw [if_neg (show ¬ ((Value.ref l == Value.none) = true) from Bool.false_ne_true)]
  show wpAny _ _ (field (.ref it) 1 >>= _) _ _ s; refine wpAny_bind (wpAny_field gi di (x := .int i 0) rfl ?_)
  show wpAny _ _ (seqItems? (.ref l) >>= _) _ _ s; refine wpAny_bind (wpAny_seqItems gl dl ?_); simp only [Int.toNat_natCast, hx]
  refine wpAny_bind (wpAny_rule (wpAny_bind (wpAny_setField gi di (by simp) ?_)))
  obtain ⟨hh, oo, ws, g1, g2, g3⟩ := hot
  exact stop_hot ⟨hh, oo, ws, by rw [Heap.get?_update_other _ _ hn.symm]; exact g1, g2, g3⟩ fun h' e k r => hE h' e (fun b o hb q => k b o (by rw [Heap.get?_update_other _ _ (Ne.symm hb)]; exact q)) r
theorem tup_end_hot {it t x1 : Addr} {i : Nat} {xs : Array Value} {Q : Option Value → Shared → Prop} (hot : HotAt A x1 s.heap) (hn : x1 ≠ it) (hi : s.heap.IsTupleIter it t i) (ht : s.heap.IsTuple t xs) (hx : xs[i]? = none)
    (hQ : ∀ h', Heap.ExtBut it s.heap h' → Q none { s with heap := h' }) : wpAny (model prog w) A (pyNext (.ref it)) Q E s := by
  obtain ⟨oi, gi, ci, di⟩ := id hi; obtain ⟨ol, gl, _, nl, dl⟩ := ht
  unfold pyNext; refine wpAny_bind (wpAny_attempt (wpAny_callSpecial?_slot (name := Str.ofString "__next__") hi.typeIs F.slot_tuple_iterator_next (wpAny_call_entry F.slot_tuple_iterator_next hi.typeIs F.entry_tuple_iterator_next ?_ (F.args_tuple_iterator_next_1 _))))
  show wpAny _ _ (field (.ref it) 0 >>= _) _ _ s; refine wpAny_bind (wpAny_field gi di (x := .ref t) rfl ?_)
  show wpAny _ _ (if (Value.ref t == Value.none) = true then _ else _) _ _ s; rw [if_neg (show ¬ ((Value.ref t == Value.none) = true) from Bool.false_ne_true)]
  show wpAny _ _ (field (.ref it) 1 >>= _) _ _ s; refine wpAny_bind (wpAny_field gi di (x := .int i 0) rfl ?_)
  show wpAny _ _ (seqItems? (.ref t) >>= _) _ _ s; refine wpAny_bind (wpAny_seqItems gl dl ?_); simp only [Int.toNat_natCast, hx]
  refine wpAny_bind (wpAny_rule (wpAny_bind (wpAny_setField gi di (by simp) ?_)))
  obtain ⟨hh, oo, ws, g1, g2, g3⟩ := hot
  refine stop_hot (A := A.in1) ⟨hh, oo, ws, by rw [Heap.get?_update_other _ _ hn.symm]; exact g1, g2, g3⟩ fun h' e k r => ?_
  obtain ⟨oe, ge, ce⟩ := r
  refine wpAny_bind (wpAny_isInstance (T := "StopIteration") (b := true) ⟨_, ge, ce⟩ isSubtype_stop ?_)
  exact wpAny_pure (hQ h' fun b o hb q => k b o (by rw [Heap.get?_update_other _ _ (Ne.symm hb)]; exact q))
theorem unpack_hot {t x1 : Addr} {xs : Array Value} {Q : List Value → Shared → Prop} (hot : HotAt A x1 s.heap) (ht : s.heap.IsTuple t xs)
    (hQ : ∀ h', Heap.ExtBut s.heap.objs.size s.heap h' → Q xs.toList { s with heap := h' }) : wpAny (model prog w) A (unpackItems (.ref t) xs.size none) Q E s := by
  obtain ⟨hh, oo, ws, g1, g2, g3⟩ := hot
  have nt : t ≠ s.heap.objs.size := by obtain ⟨o, ho, _⟩ := ht; exact Nat.ne_of_lt (Heap.lt_size ho)
  have nx : x1 ≠ s.heap.objs.size := Nat.ne_of_lt (Heap.lt_size g1)
  unfold unpackItems; refine wpAny_bind ?_
  unfold notIterableAtAll; refine wpAny_bind (wpAny_specialOf ht.typeIs F.slot_tuple_iter.lookup ?_)
  refine wpAny_pure ?_; simp only [Bool.false_eq_true, if_false]
  refine wpAny_bind (wpAny_holding (wpAny_pyIter_tuple ht ?_)); refine wpAny_bind (wpAny_holding (wpAny_draw_tuple nt xs.size 0 _ _ ⟨_, Heap.get?_push_size _ rfl, rfl, rfl⟩ (ht.push _) (by omega) fun h₁ i₁ s₁ => ?_))
  rw [show List.take xs.size (List.drop 0 xs.toList) = xs.toList from by rw [List.drop_zero]; exact List.take_of_length_le (by simp)]; rw [if_neg (by simp)]
  refine wpAny_bind (wpAny_holding (tup_end_hot ⟨hh, oo, ws, s₁.extBut x1 oo nx (Heap.get?_push_of_some _ g1), g2, g3⟩ nx i₁ ((ht.push _).extBut s₁.extBut nt) (by simp) fun h₂ e₂ => ?_))
  simp only [Option.isSome_none, Bool.false_eq_true, if_false]
  exact wpAny_pure (hQ h₂ fun b o hb q => e₂ b o hb (s₁.extBut b o hb (Heap.get?_push_of_some _ q)))
theorem asg_tup_hot {env : Env} {es : List Expr} {k : Nat} {pos : Pos} {t x1 : Addr} {xs : Array Value} {Q : Unit → Shared → Prop} (hot : HotAt A x1 s.heap) (ht : s.heap.IsTuple t xs) (hn : (assignEach es env).length = xs.size) (hs : (assignEach es env).findIdx? (·.1) = none)
    (h : ∀ h', Heap.ExtBut s.heap.objs.size s.heap h' → wpAny (model prog w) A (assignInOrder ((assignEach es env).map (·.2)) xs.toList) Q E { s with heap := h' }) : wpAny (model prog w) A (assign (.Tuple es k pos) env (.ref t)) Q E s := by
  rw [arm_assign_Tuple]; refine wpAny_bind (wpAny_standAt ?_)
  unfold unpack; rw [hn, hs]; exact wpAny_bind (wpAny_holding (unpack_hot hot ht h))
end
/-- a list that is walked while an exception is handled -/
theorem drawsH {prog : Program} {w : World} {A : Around} {x1 : Addr} {o1 : Obj} {ws : Array Value} (hh : A.handled = some (.ref x1)) (d1 : o1.data = .fields ws) (c1 : ws[2]? = some .none) (it l : Addr) (hne : l ≠ it) (hx : x1 ≠ it) (xs : Array Value) :
    Draws prog w A it [it, l, x1] xs.size (fun i v => xs[i]? = some v) (fun i h => h.IsListIter it l i ∧ h.IsList l xs ∧ h.get? x1 = some o1) where
  live := fun _ _ st => let ⟨o, ho, _⟩ := st.1; ⟨o, ho⟩
  frame := fun _ _ _ st k => ⟨st.1.at fun o e => k it (by simp) o e, st.2.1.at fun o e => k l (by simp) o e, k x1 (by simp) _ st.2.2⟩
  item := fun i s Q E hi st hQ => by
    refine wpAny_nextOf_list_item st.1 st.2.1 (x := xs[i]) (by simp [hi]) fun h' i' s' => hQ _ h' s.toks (by simp [hi]) ⟨i', st.2.1.extBut s'.extBut hne, s'.extBut _ _ hx st.2.2⟩ s'
  done := fun s Q E st hE => list_end_hot ⟨hh, o1, ws, st.2.2, d1, c1⟩ hx st.1 st.2.1 (by simp) hE
end MPH

end
section
set_option linter.all false
set_option Elab.async false
set_option maxRecDepth 100000
set_option maxHeartbeats 4000000
/-! [word for word, good in zip(words, goods) if good], while an exception is handled (turned from the worked example of two lists' zip). -/
namespace MPH
open PySem PySem.Spec PyProof.Rows HotX
theorem off5 {b N C D : Nat} (hb : b < N ∨ b = C) (hC : N + 5 ≤ C) (hD : N + 5 ≤ D) (h : D ≠ C) : ¬ (b = D ∨ b = N + 4 ∨ b = N + 3 ∨ b = N ∨ b = N + 1) := by omega
theorem ne5 {b N C : Nat} (hb : b < N + 5) (hC : N + 5 ≤ C) : b ≠ C := by omega
theorem lt5 {b N p q x : Nat} (h1 : p < N) (h2 : q < N) (h3 : x < N) (hb : b = N + 4 ∨ b = N + 2 ∨ b = N + 3 ∨ b = N ∨ b = p ∨ b = x ∨ b = N + 1 ∨ b = q ∨ b = x) : b < N + 5 := by omega
/-- the words whose flag is true -/
def sel (xs : List Value) (bs : List Bool) : List Value := (xs.zip bs).filterMap fun p => if p.2 then some p.1 else none
theorem sel_take {xs : List Value} {bs : List Bool} {i : Nat} {x : Value} {b : Bool} (h1 : xs[i]? = some x) (h2 : bs[i]? = some b) : sel (xs.take (i + 1)) (bs.take (i + 1)) = sel (xs.take i) (bs.take i) ++ (if b then [x] else []) := by
  unfold sel
  rw [List.take_add_one, List.take_add_one, h1, h2]
  have hl : (xs.take i).length = (bs.take i).length := by
    have a := (List.getElem?_eq_some_iff.mp h1).1
    have c := (List.getElem?_eq_some_iff.mp h2).1
    rw [List.length_take, List.length_take]; omega
  rw [List.zip_append hl, List.filterMap_append]
  cases b <;> rfl
section
variable {prog : Program} {w : World} {A : Around} {E : Value → Shared → Prop} {env : Env} {s : Shared}
theorem sel_zip {scope : Scope} {cl : List (Str × Addr)} {l1 l2 x1 : Addr} {o1 : Obj} {ws : Array Value} {xs : Array Value} {bs : List Bool} {pa pb pt pe pg : Pos} {k : Nat} {Q : Value → Shared → Prop} (hh : A.handled = some (.ref x1)) (g1 : s.heap.get? x1 = some o1) (d1 : o1.data = .fields ws) (c1 : ws[2]? = some .none)
    (hkind : scope.kind = .function) (ha : scope.names.lookup ("word" : Str) = some .local) (hb : scope.names.lookup ("good" : Str) = some .local) (hl1 : s.heap.IsList l1 xs) (hl2 : s.heap.IsList l2 (bs.map Value.bool).toArray) (hz : xs.size = bs.length) (hsz : xs.size ≤ sizeLine)
    (h : ∀ D h' tk, s.heap.objs.size ≤ D → h'.PlainList D (sel xs.toList bs).toArray → (∀ b o, s.heap.get? b = some o → h'.get? b = some o) → Q (.ref D) { s with heap := h', toks := tk }) :
    wpAny (model prog w) A (call (.type "zip") [.ref l1, .ref l2]) (fun xv s₁ => wpAny (model prog w) A (pyIter xv) (LcGoes prog w A E env scope cl (.Tuple [.Name "word" pa, .Name "good" pb] k pt) [.Name "good" pg] (.Name "word" pe) none Q) E s₁) E s := by
  have t1 : l1 < s.heap.objs.size := by obtain ⟨o, ho, _⟩ := hl1; exact Heap.lt_size ho
  have t2 : l2 < s.heap.objs.size := by obtain ⟨o, ho, _⟩ := hl2; exact Heap.lt_size ho
  have t3 : x1 < s.heap.objs.size := Heap.lt_size g1
  refine zip_begins2 (begins_list l1 xs) (begins_list l2 (bs.map Value.bool).toArray) hl1 hl2 fun h₁ zZ zI zO i1 i2 z5 k₁ => ?_
  refine wpAny_pyIter_zip zZ ?_
  refine ⟨_, _, _, _, _, _, rfl, Goes.zip2 (zip_sep2 (N := s.heap.objs.size) (fp1 := [l1, x1]) (fp2 := [l2, x1]) (fun b hb => by simp at hb; rcases hb with rfl | rfl; exact t1; exact t3) (fun b hb => by simp at hb; rcases hb with rfl | rfl; exact t2; exact t3))
      (drawsH (A := A.in1) hh d1 c1 _ l1 (Nat.ne_of_lt t1) (Nat.ne_of_lt t3) xs) (drawsH (A := A.in1) hh d1 c1 _ l2 (Nat.ne_of_lt (Nat.lt_succ_of_lt t2)) (Nat.ne_of_lt (Nat.lt_succ_of_lt t3)) (bs.map Value.bool).toArray), Nat.le_trans (Nat.min_le_left ..) hsz,
    ⟨zZ, zI, ⟨_, _, zO⟩, ⟨⟨_, i1, rfl, rfl⟩, hl1.at fun o e => k₁ _ o e, k₁ _ _ g1⟩, ⟨⟨_, i2, rfl, rfl⟩, hl2.at fun o e => k₁ _ o e, k₁ _ _ g1⟩⟩, ?_, fun D C s₃ hB => ?_⟩
  · intro b hb; show b < h₁.objs.size; rw [z5]
    exact lt5 t1 t2 t3 (by simpa using hb)
  · obtain ⟨⟨h₃, tk₃, rfl⟩, old, nD, nC, hDC, hnm⟩ := hB
    have mC : (s.heap.objs.size + 5 : Nat) ≤ C := by rw [← z5]; exact nC
    have mD : (s.heap.objs.size + 5 : Nat) ≤ D := by rw [← z5]; exact nD
    have mDC : (D : Nat) ≠ C := hDC
    have kinds : ∀ y, scope.names.lookup y = some .local → (compEnvC scope cl C env).kindOf y = some .local := fun y hy => lookup_relabel_local hy
    have hp : ((compEnvC scope cl C env).scope.kind == .class || ((compEnvC scope cl C env).scope.kind == .module && (compEnvC scope cl C env).locals != (compEnvC scope cl C env).globals)) = false := by show (scope.kind == .class || (scope.kind == .module && _)) = false; rw [hkind]; rfl
    refine ⟨fun i vs s₁ => ∃ h' tk m, s₁ = { s with heap := h', toks := tk } ∧ h'.Ns C m ∧ vs = sel (xs.toList.take i) (bs.take i) ∧ ∀ b o, s.heap.get? b = some o → h'.get? b = some o, ⟨h₃, tk₃, _, rfl, hnm, by simp [sel], fun b o e => old b o (k₁ b o e)⟩, ?_, ?_, ?_⟩
    · rintro i vs s₁ h' tk ⟨h₄, tk₄, m, rfl, n₄, e₄, k₄⟩ hk' _
      have off : ∀ b : Addr, (b < s.heap.objs.size ∨ b = C) → b ∉ D :: [s.heap.objs.size + 4, s.heap.objs.size + 3, s.heap.objs.size, s.heap.objs.size + 1] := fun b hb hm => off5 hb mC mD mDC (by simpa using hm)
      exact ⟨h', tk, m, rfl, n₄.at' fun o e => hk' _ o (off _ (.inr rfl)) e, e₄, fun b o e => hk' b o (off _ (.inl (Heap.lt_size e))) (k₄ b o e)⟩
    · rintro i v vs s₁ hi ⟨T, x, y, rfl, hx, hy, hT⟩ st ⟨h₄, tk₄, m, rfl, n₄, e₄, k₄⟩ hpl
      have hxi : xs[i]? = some x := hx
      have hyi : (bs.map Value.bool).toArray[i]? = some y := hy
      obtain ⟨b, hbi, rfl⟩ : ∃ b, bs[i]? = some b ∧ Value.bool b = y := by simpa using hyi
      refine asg_tup_hot ⟨hh, o1, ws, k₄ _ _ g1, d1, c1⟩ hT rfl rfl fun h₅ s₅ => ?_
      have u₅ : ∀ b o, h₄.get? b = some o → h₅.get? b = some o := fun b o e => s₅ b o (Nat.ne_of_lt (Heap.lt_size e)) e
      show wpAny _ _ (assignInOrder [assign (.Name "word" pa) _, assign (.Name "good" pb) _] [x, .bool b]) _ _ _
      refine wpAny_assignInOrder_more (wpAny_assign_Name (wpAny_storeName_local (kinds _ ha) (n₄.at' fun o e => u₅ _ o e) (fun h₆ n₆ s₆ => ?_) hp))
      refine wpAny_assignInOrder_more (wpAny_assign_Name (wpAny_storeName_local (kinds _ hb) n₆ (fun h₇ n₇ s₇ => wpAny_assignInOrder_none ?_) hp))
      have u₇ : ∀ b o, b ≠ C → h₄.get? b = some o → h₇.get? b = some o := fun b o hb e => s₇.extBut _ _ hb (s₆.extBut _ _ hb (u₅ b o e))
      have offC : ∀ b : Addr, b < s.heap.objs.size + 5 → b ≠ C := fun b hb => ne5 hb mC
      have stay : ∀ {tk' : Nat}, ∃ h' tk m', ({ s with heap := h₇, toks := tk' } : Shared) = { s with heap := h', toks := tk } ∧ h'.Ns C m' ∧ vs ++ (if b then [x] else []) = sel (xs.toList.take (i + 1)) (bs.take (i + 1)) ∧ ∀ b o, s.heap.get? b = some o → h'.get? b = some o := fun {tk'} =>
        ⟨h₇, tk', _, rfl, n₇, by rw [e₄]; exact (sel_take (by simpa using hxi) hbi).symm, fun b o e => u₇ b o (offC b (Nat.lt_add_right 5 (Heap.lt_size e))) (k₄ b o e)⟩
      have st' : IsZip h₇ (s.heap.objs.size + 4) (s.heap.objs.size + 2) (s.heap.objs.size + 3) .none ∧ IsTupOf2 h₇ (s.heap.objs.size + 2) (.ref s.heap.objs.size) (.ref (s.heap.objs.size + 1)) ∧ (∃ a1 a2, IsTupOf2 h₇ (s.heap.objs.size + 3) a1 a2) ∧ (h₇.IsListIter s.heap.objs.size l1 (i + 1) ∧ h₇.IsList l1 xs ∧ h₇.get? x1 = some o1) ∧ (h₇.IsListIter (s.heap.objs.size + 1) l2 (i + 1) ∧ h₇.IsList l2 (bs.map Value.bool).toArray ∧ h₇.get? x1 = some o1) := by
        obtain ⟨z1, z2, ⟨a1, a2, z3⟩, ⟨z4, z5, z8⟩, ⟨z6, z7, z9⟩⟩ := st
        exact ⟨u₇ _ _ (offC _ (Nat.add_lt_add_left (by decide) _)) z1, u₇ _ _ (offC _ (Nat.add_lt_add_left (by decide) _)) z2, ⟨a1, a2, u₇ _ _ (offC _ (Nat.add_lt_add_left (by decide) _)) z3⟩, ⟨z4.at fun o e => u₇ _ o (offC _ (Nat.lt_add_of_pos_right (by decide))) e, z5.at fun o e => u₇ _ o (offC _ (Nat.lt_add_right 5 t1)) e, u₇ _ _ (offC _ (Nat.lt_add_right 5 t3)) z8⟩, ⟨z6.at fun o e => u₇ _ o (offC _ (Nat.add_lt_add_left (by decide) _)) e, z7.at fun o e => u₇ _ o (offC _ (Nat.lt_add_right 5 t2)) e, u₇ _ _ (offC _ (Nat.lt_add_right 5 t3)) z9⟩⟩
      have pl' := hpl.at fun o e => u₇ D o hDC e
      refine wpAny_tests_one (wpAny_isTrue_value ?_)
      · rw [eval_Name _ _ _ (by decide)]
        refine wpAny_bind (wpAny_standAt (wpAny_loadName_local hkind (kinds _ hb) n₇ (v := .bool b) (by rfl) (wpAny_truthy_bool ?_)))
        cases b with
        | false => exact ⟨by simpa using stay (tk' := tk₄), st', pl'⟩
        | true =>
          rw [if_pos rfl]
          rw [eval_Name _ _ _ (by decide)]
          refine wpAny_bind (wpAny_standAt (wpAny_loadName_local hkind (kinds _ ha) n₇ (v := x) (by rfl) ?_))
          exact ⟨by simpa using stay (tk' := tk₄), st', pl'⟩
    · rintro vs s₁ ⟨h₄, tk₄, m, rfl, n₄, e₄, k₄⟩ hpl
      have nD2 : s.heap.objs.size ≤ D := Nat.le_trans (Nat.le_add_right _ 5) mD
      refine ⟨m, n₄, fun h' hs' => h D h' tk₄ nD2 ?_ fun b o e => hs'.extBut b o (ne5 (Nat.lt_add_right 5 (Heap.lt_size e)) mC) (k₄ b o e)⟩
      have ev : vs = sel xs.toList bs := by
        rw [e₄]
        have hm : min xs.size (bs.map Value.bool).toArray.size = bs.length := by simp [hz]
        rw [hm, List.take_of_length_le (by simp [hz]), List.take_of_length_le (by simp)]
      rw [← ev]
      exact hpl.extBut hs'.extBut hDC
end
end MPH

end
section
set_option linter.all false
set_option Elab.async false
set_option maxRecDepth 100000
set_option maxHeartbeats 4000000
/-! A lambda without parameters handed to a def; its errors have the context None (turned from the hand layer's own rule). -/
namespace MPH
open PySem PySem.Spec PyProof.Rows L2 LamX
/-- what the heap is behind the making of a lambda: as it was, or with one more code object in the table at P -/
def Made (P : Addr) (q : Str) (H H1 : Hp) : Prop := H1 = H ∨ ∃ (ps more : Array Value) (c : Addr), H P = some (.tbl ps) ∧ H c = none ∧ H1 = upd (upd H P (.tbl (ps ++ more))) c (CodeO c q)
section
variable {X : Cx} {pins : List (Addr × Obj)} {σ : L2.St} {H HZ : Hp} {s s1 : Shared}
theorem lam_mk {c P : Addr} {params : Arguments} {body : Expr} {scope : Scope} {pos : Pos} {E : Value → Shared → Prop} {Q : Value → Shared → Prop} (I : Inv X pins σ H s) (TB : TabB X.base X.mg c P) (hcode : X.env.code = .ref c)
    (hT : TabS H P (X.env.qual ++ "<lambda>")) (hdef : defaultsOf params X.env = ([], [])) (hfree : ∀ y ∈ scope.names, y.2 = .free → ∃ c, X.env.cells.lookup y.1 = some c)
    (h : ∀ (f c' : Addr) (pm ctv : Value) (H1 : Hp) (s' : Shared), Inv X pins σ H1 s' → Made P (X.env.qual ++ "<lambda>") H H1 → TabS H1 P (X.env.qual ++ "<lambda>") →
      s'.heap.get? f = some (PySem.W.kla_obj "<lambda>" (X.env.qual ++ "<lambda>") params body scope (cloFrom X.env.cells scope.names []) pm c' ctv) → H1 f = none → f ∉ frs X.stack → H1 c' = some (CodeO c' (X.env.qual ++ "<lambda>")) → Q (.ref f) s') :
    wpAny (model X.prog X.w) X.A (eval (.Lambda params body scope pos) X.env) Q E s := by
  obtain ⟨ps, hP, ht, ha⟩ := hT
  refine PySem.W.kla_eval hdef ?_
  have bP : s.heap.BuiltinsAt X.mg P := TB.bm.keeps I.bk
  have gP : s.heap.get? P = some { cls := .none, data := .fields ps } := I.hok P _ hP
  have nofr : ∀ f, s.heap.objs.size ≤ f → f ∉ frs X.stack := fun f hf z => by
    rcases List.mem_cons.mp (I.stkSub _ z) with e | e
    · have l1 := I.lt; rw [← e] at l1
      exact absurd (Nat.lt_of_lt_of_le l1 hf) (Nat.lt_irrefl _)
    · exact I.nofs hf e
  cases hc : codeAmong pos ps.toList with
  | some cv =>
    obtain ⟨c', e, hco⟩ := ha pos cv hc; subst e
    refine PySem.W.kla_makeFunctionHit (mg := X.mg) (c := c) (P := P) (ps := ps) (closure_ok hfree) I.ok.glob (I.mod.glob.keeps I.bk) hcode (TB.code.keeps I.bk) gP ht hc bP fun ctv h' tk hx hsz => ?_
    exact h h'.objs.size c' ((X.mg "__name__").getD .none) ctv H _ (I.kept (t' := tk) fun b o e => Heap.get?_push_of_some _ (hx b o e)) (.inl rfl) ⟨ps, hP, ht, ha⟩ (Heap.get?_push_size _ rfl) (I.hok.fresh hsz) (nofr _ hsz) hco
  | none =>
    refine PySem.W.kla_makeFunction (mg := X.mg) (c := c) (P := P) (ps := ps) (closure_ok hfree) I.ok.glob (I.mod.glob.keeps I.bk) hcode (TB.code.keeps I.bk) gP ht hc TB.gP bP fun c' ctv h' tk hx hge hlt hrec htb => ?_
    obtain ⟨c2, oc, vs, t, e2, hoc, hd, hv⟩ := hrec; cases e2
    have hsz : s.heap.objs.size ≤ h'.objs.size := Nat.le_trans hge (Nat.le_of_lt hlt)
    have nC : H c' = none := I.hok.fresh hge
    have nPc : P ≠ c' := ne_of_none hP nC
    have atP : ∀ (o u : HO), upd (upd H P o) c' u P = some o := fun o u => by rw [upd_ne nPc, upd_same]
    have I1 := inv_table (t' := tk) (more := #[rawInt pos.line, rawInt pos.col, .ref c']) (h' := h'.push (PySem.W.kla_obj "<lambda>" (X.env.qual ++ "<lambda>") params body scope (cloFrom X.env.cells scope.names []) ((X.mg "__name__").getD .none) c' ctv)) (q := X.env.qual ++ "<lambda>") I hP
      (fun b o hb e => Heap.get?_push_of_some _ (hx b o hb e)) (Heap.get?_push_of_some _ htb) hge ⟨oc, vs, t, Heap.get?_push_of_some _ hoc, hd, hv⟩
    have eL : (ps ++ #[rawInt pos.line, rawInt pos.col, .ref c']).toList = ps.toList ++ [rawInt pos.line, rawInt pos.col, .ref c'] := by simp
    refine h h'.objs.size c' ((X.mg "__name__").getD .none) ctv _ _ I1 (.inr ⟨ps, _, c', hP, nC, rfl⟩) ⟨_, atP _ _, by rw [eL]; exact PySem.TriplesOk_snoc _ _ _ _ ht, fun p' cv hcv => ?_⟩ (Heap.get?_push_size _ rfl) ?_ (nofr _ hsz) upd_same
    · rw [eL] at hcv
      rcases among_app _ ht hcv with z | z
      · obtain ⟨c0, e1, e2⟩ := ha p' cv z
        refine ⟨c0, e1, ?_⟩
        rw [upd_ne (ne_of_none e2 nC), upd_ne (fun z => by rw [z, hP] at e2; exact codeO_ne ps (Option.some.inj e2).symm)]; exact e2
      · exact ⟨c', z, upd_same⟩
    · rw [upd_ne (Nat.ne_of_gt hlt), upd_ne (Nat.ne_of_gt (Nat.lt_of_lt_of_le (Heap.lt_size gP) hsz))]; exact I.hok.fresh hsz
end
abbrev lEnv (X : Cx) (scope : Scope) (L f c' : Addr) : Env := LamX.lamEnv X scope L f c'
/-- the context of the lambda's body -/
def lamC (X : Cx) (A : Around) (outer : List Env) (s : Shared) (H : Hp) (E : XK) (scope : Scope) (f c' : Addr) : Cx :=
  (LamX.lamCx X A outer s H E scope f c').wish (fun e s' => wpAny (model X.prog X.w) (A.deeper (lEnv X scope s.heap.objs.size f c')) (leaving (lEnv X scope s.heap.objs.size f c') e) (fun _ s'' => L2N.CX X.prog X.w outer H s E e s'') (fun e' s'' => L2N.CX X.prog X.w outer H s E e' s'') s')
section
variable {X : Cx} {pins : List (Addr × Obj)} {σ : L2.St} {H HZ : Hp} {s s1 : Shared}
theorem lamC_start {A : Around} {outer : List Env} {E : XK} {scope : Scope} {f c' : Addr} {h₁ : Heap} {tk : Nat} (I : Inv X pins σ H s) (L : LamS X.env.scope scope) (e0 : Env0 X.prog X.w X.K X.mg X.base A outer s1 HZ) (hd : A.handled = none)
    (un : Un (frs X.stack) [] H HZ s.heap s1.heap) (hns : h₁.Ns s1.heap.objs.size fun y => ([] : List (Str × Value)).reverse.lookup y) (kp : ∀ b o, s1.heap.get? b = some o → h₁.get? b = some o) :
    Inv (lamC X A outer s1 HZ E scope f c') [] σ HZ { s1 with heap := h₁, toks := tk } :=
  (LamX.lam_start2 I L e0 hd un hns kp).wish _
/-- x(), in the def that got the lambda -/
theorem act {CXg : CXT} {Eg : XK} {Ng : List Str} {qg : Str} {sg : Scope} {g f c' : Addr} {cdg pm ctv : Value} {params : Arguments} {body : Expr} {scope : Scope} {k i : Nat} {a : Str} {pn : List (Addr × Obj)} {xe : Value → Shared → Prop} {W : WX} {E : XK} {tb : TE} {p1 p2 : Pos}
    (I : Inv X pins σ H s) (L : LamS X.env.scope scope) (hf : s.heap.get? f = some (PySem.W.kla_obj "<lambda>" (X.env.qual ++ "<lambda>") params body scope (cloFrom X.env.cells scope.names []) pm c' ctv)) (hfn : H f = none) (hfr : f ∉ frs X.stack)
    (hbind : bindArgs (PySem.W.kla_fn "<lambda>" (X.env.qual ++ "<lambda>") params body scope (cloFrom X.env.cells scope.names []) pm (.ref c') ctv) ⟨[], []⟩ = pure [])
    (tk : L2N.Takes ((cxOf CXg X.prog X.w X.K X.mg X.base Ng qg sg g cdg X.A X.stack s H Eg).tr pn xe) W) (hW : ∀ cls d σ' H', E cls d H' → W cls d σ' H') (hr : Room (k + 1) (X.A.deeper (envOfC qg sg s.heap.objs.size g cdg)))
    (hbody : ∀ (A : Around) (outer : List Env) (s : Shared) (H : Hp), Room k (A.deeper (lEnv X scope s.heap.objs.size f c')) → PE (lamC X A outer s H E scope f c') body tb)
    (hN : Ng[i]? = some a) (hv : Vis sg a) (hd : (a == ("__debug__" : Str)) = false) (hcd : (a == ("__classdict__" : Str)) = false) :
    PE ((cxOf CXg X.prog X.w X.K X.mg X.base Ng qg sg g cdg X.A X.stack s H Eg).tr pn xe) (.Call (.Name a p1) [] [] p2)
      (fun σZ HZ Q => σZ[i]? = some (some (.ref f)) ∧ HZ c' = some (CodeO c' (X.env.qual ++ "<lambda>")) ∧ tb σ HZ Q) := by
  refine ⟨fun pinsZ sZ σZ HZ Q IZ ⟨hs, hc, ht⟩ => ?_⟩
  refine wpAny_Call_Name_kw (thn ((pe_var (pos := p1) (i := i) hN hv hd hcd).run pinsZ sZ σZ HZ (fun v H1 => v = .ref f ∧ H1 = HZ) IZ ⟨.ref f, hs, rfl, rfl⟩) fun u s1 ⟨v, H1, I1, r1, ev, eH⟩ => ?_)
  subst ev; rw [eH] at I1; obtain rfl : u = Value.ref f := r1
  have of1 : s1.heap.get? f = some (PySem.W.kla_obj "<lambda>" (X.env.qual ++ "<lambda>") params body scope (cloFrom X.env.cells scope.names []) pm c' ctv) := I1.base.keep f _ hf hfn hfr (fun z => nomatch (show f ∈ ([] : List Addr) from z))
  refine PySem.W.callWith_F0 ⟨_, _, _, _, of1⟩ ?_
  obtain ⟨⟨oc, vs, t, hoc, hdc, hvc⟩, _, _⟩ := I1.hok c' _ hc
  have rc : codeAny (model X.prog X.w) (X.A.deeper (envOfC qg sg s.heap.objs.size g cdg)) (.call (.ref f) ⟨[], []⟩) (CR (L2N.CX X.prog X.w) (envOfC qg sg s.heap.objs.size g cdg :: X.stack) X.prog X.w HZ s1 Q E) s1 := by
    refine PySem.W.kla_callFunE hr.depth of1 rfl L.co L.gen rfl ⟨c', oc, vs, t, rfl, hoc, hdc, hvc⟩ ?_; rw [hbind]
    refine wpAny_pure (wpAny_newFunctionEnv (fun y hy => (L.own y hy).2) (fun y hy => absurd hy (by simp)) (fun h₁ hns hsb => ⟨I1.nolimit.fresh _ hsb, ?_⟩) L.kind)
    show codeAny _ _ (.expr body (lEnv X scope s1.heap.objs.size f c')) _ _
    have J := lamC_start (E := E) (f := f) (c' := c') (tk := s1.toks + ([] : List (Str × Value)).length) I L I1.env0 hr.hd I1.base hns fun b o e => hsb.extBut b o (Nat.ne_of_lt (Heap.lt_size e)) (Heap.get?_push_of_some _ e)
    refine PySem.W.kla_codeExpr (wpAny_mono ((hbody _ _ s1 HZ (hr.deeper _)).run [] _ _ HZ Q J ht) (fun v s' ⟨w', H', J', rv, q⟩ => ?_) fun e s' hq => hq)
    exact ⟨w', H', J'.os, J'.bare, J'.base, J'.hok, rv, q⟩
  have hx : Passes (L2N.CX X.prog X.w) ((cxOf CXg X.prog X.w X.K X.mg X.base Ng qg sg g cdg X.A X.stack s H Eg).tr pn xe) E := L2N.passes_call tk hW
  refine wpAny_call (codeAny_mono rc fun r s' hq => ?_)
  cases r with
  | error e => exact hx pinsZ σZ HZ s1 e s' I1 hq
  | ok fl => cases fl with
    | ret u => exact I1.after hq
    | _ => exact False.elim hq
end
/-- the def that calls what it got (its parameter a); TT: what it makes of the lambda's reading -/
def Gives (X : Cx) (Ng : List Str) (x : Str) (sg : Scope) (g : Addr) (cdg : Value) (bg : List Stmt) (a : Str) (q : Str) (TT : (XK → Hp → VK → Prop) → Hp → VK → Prop) : Prop :=
  ∀ (f c' : Addr) (s : Shared) (H : Hp) (Q : VK) (tl : XK → Hp → VK → Prop), Room 1 (X.A.deeper (envOfC x sg s.heap.objs.size g cdg)) →
    (∀ (W : WX) (pn : List (Addr × Obj)) (xe : Value → Shared → Prop) (E : XK) (p1 p2 : Pos), L2N.Takes ((cxOf C8.CX0 X.prog X.w X.K X.mg X.base Ng x sg g cdg X.A X.stack s H C8.E0).tr pn xe) W → (∀ cls d σ' H', E cls d H' → W cls d σ' H') →
      PE ((cxOf C8.CX0 X.prog X.w X.K X.mg X.base Ng x sg g cdg X.A X.stack s H C8.E0).tr pn xe) (.Call (.Name a p1) [] [] p2) (fun σZ HZ Q => σZ[0]? = some (some (.ref f)) ∧ HZ c' = some (CodeO c' q) ∧ tl E HZ Q)) →
    H c' = some (CodeO c' q) → TT tl H Q →
    ∃ t, PSs (cxOf C8.CX0 X.prog X.w X.K X.mg X.base Ng x sg g cdg X.A X.stack s H C8.E0).nox bg t ∧ t { nx := fun _ H' => Q .non H', rt := Q } (L2.start Ng [.ref f]) H
def tLamN (P : Addr) (q : Str) (TT : (XK → Hp → VK → Prop) → Hp → VK → Prop) (t : XK → TE) : TE := fun σ H Q => TabS H P q ∧ ∀ H1, Made P q H H1 → TabS H1 P q → TT (fun E H' Q' => t E σ H' Q') H1 Q
section
variable {X : Cx}
/-- x(lambda: body) -/
theorem pe_lamN {TT : (XK → Hp → VK → Prop) → Hp → VK → Prop} {x a : Str} {g c P : Addr} {k : Nat} {pg : Arguments} {bg : List Stmt} {sg : Scope} {dV kV doc pm cdv ct oc : Value} {an od : Option Addr} {osl : Array (Option Value)} {Ng : List Str}
    {params : Arguments} {body : Expr} {scope : Scope} {t : XK → TE} {p lpos pos : Pos} (hg : Gl X x) (hm : X.mg x = some (.ref g)) (hk : PySem.W.keepIn X.K (.ref g) = true)
    (lk : X.K.lookup g = some ⟨oc, od, .func (PySem.W.fnOf x x pg bg sg dV kV doc pm an cdv ct), osl⟩) (hcg : PySem.W.codeIn X.K cdv x = true) (hb : L2.Binds X.K (PySem.W.fnOf x x pg bg sg dV kV doc pm an cdv ct) [a] []) (Sg : FnScope Ng [a] sg) (hNg : Ng[0]? = some a) (hva : Vis sg a)
    (hG : Gives X Ng x sg g cdv bg a (X.env.qual ++ "<lambda>") TT)
    (TB : TabB X.base X.mg c P) (hcode : X.env.code = .ref c) (hr : Room (k + 2) X.A) (L : LamS X.env.scope scope) (hdef : defaultsOf params X.env = ([], []))
    (hbind : ∀ (q : Str) (cl : List (Str × Addr)) (pm cv ctv : Value), bindArgs (PySem.W.kla_fn "<lambda>" q params body scope cl pm cv ctv) ⟨[], []⟩ = pure [])
    (hbody : ∀ (A : Around) (outer : List Env) (s : Shared) (H : Hp) (E : XK) (f c' : Addr), Room k (A.deeper (lEnv X scope s.heap.objs.size f c')) → PE (lamC X A outer s H E scope f c') body (t E))
    (hdb : (x == ("__debug__" : Str)) = false) (hd : (a == ("__debug__" : Str)) = false) (hcd : (a == ("__classdict__" : Str)) = false) :
    PE X (.Call (.Name x p) [.Lambda params body scope lpos] [] pos) (tLamN P (X.env.qual ++ "<lambda>") TT t) := by
  refine ⟨fun pins s σ H Q I ⟨hT, h⟩ => ?_⟩
  refine wpAny_Call_Name_kw (ld_glob I hg hm ?_ hdb); refine PySem.W.callWith_K (h₀ := X.base) I.ok.mod.kin hk ?_ (by rfl) (by rfl)
  show wpAny _ _ (spliced ((false, eval (.Lambda params body scope lpos) X.env) :: backTo pos (starEach [] X.env))) _ _ s
  refine Calls.spliced_cons (lam_mk I TB hcode hT hdef (L.has I.ok) fun f c' pm' ctv H1 s' I1 eN T1 hf hfn hfr hco => ?_)
  refine Calls.spliced_nil ⟨I1.kIn, ?_⟩
  have rc : codeAny (model X.prog X.w) X.A (.call (.ref g) ⟨[.ref f], []⟩) (CR C8.CX0 X.stack X.prog X.w H1 s' Q C8.E0) s' := by
    refine LamX.run_ofS (N := Ng) (ps := [a]) (us := [.ref f]) (vs := [.ref f]) lk hcg Sg hr I1.env0 (hb s' [.ref f] I1.kIn rfl) (.cons rfl .nil) rfl fun hr' => ?_
    obtain ⟨t', ht', hq'⟩ := hG f c' s' H1 Q (fun E H' Q' => t E σ H' Q') (hr'.mono (Nat.le_add_left 1 k)) (fun W pn xe E p1 p2 tk hW => act (i := 0) I1 L hf hfn hfr (hbind _ _ _ _ _) tk hW hr' (fun A outer s H hr2 => hbody A outer s H E f c' hr2) hNg hva hd hcd) hco (h H1 eN T1)
    exact ⟨t', ht'.nox, hq'⟩
  refine wpAny_call (codeAny_mono rc fun r s2 hq => ?_)
  cases r with
  | error e => exact (show False from hq).elim
  | ok fl => cases fl with
    | ret u => exact I1.after hq
    | _ => exact False.elim hq
end
end MPH

end
section
set_option linter.all false
set_option Elab.async false
set_option maxRecDepth 100000
set_option maxHeartbeats 4000000
/-! A def that is called in an except suite with the very error; the def that tells an error's names. -/
namespace MPH
open PySem PySem.Spec PyProof.Rows L2 LamX HotX L2H
/-- what such a def promises: x, the error's class -/
def HotRun (P : Program) (w : World) (K : PySem.W.Frag) (mg : Str → Option Value) (base : Heap) (k : Nat) (f : Addr) (fd : FuncData) (ps : List Str) (sp : Str → Sp) : Prop :=
  ∀ (A : Around) (outer : List Env) (s : Shared) (H : Hp) (args : Args) (us : List Value) (vs : List V) (Q : VK) (p : Addr × Obj) (x : Str), RoomH k A → Hot1 A p → PinOk outer H s p → Zc (.ref (He.ga K x)) none p.2 → Env0 P w K mg base A outer s H → BindsTo s fd args (ps.zip us) → Vals vs us → vs = [.ref p.1] → sp x vs H Q C8.E0 →
    codeAny (model P w) A (.call (.ref f) args) (CR C8.CX0 outer P w H s Q C8.E0) s
theorem hot_run {P : Program} {w : World} {K : PySem.W.Frag} {mg : Str → Option Value} {base : Heap} {k : Nat} {f : Addr} {name qual : Str} {params : Arguments} {body : List Stmt} {scope : Scope} {dV kV doc pm cdv ct oc : Value} {an od : Option Addr}
    {osl : Array (Option Value)} {N ps : List Str} {sp : Str → Sp} (lk : K.lookup f = some ⟨oc, od, .func (PySem.W.fnOf name qual params body scope dV kV doc pm an cdv ct), osl⟩) (hcd : PySem.W.codeIn K cdv qual = true) (S : FnScope N ps scope) (h1 : ps.length = 1)
    (hbody : ∀ (A : Around) (outer : List Env) (s : Shared) (H : Hp) (vs : List V) (Q : VK) (p : Addr × Obj) (x : Str), Hot1 A p → Zc (.ref (He.ga K x)) none p.2 → vs = [.ref p.1] → RoomH k (A.deeper (envOfC qual scope s.heap.objs.size f cdv)) → sp x vs H Q C8.E0 →
      ∃ t, PSs (cxH C8.CX0 P w K mg base N qual scope f cdv A outer s H C8.E0 p) body t ∧ t { nx := fun _ H' => Q .non H', rt := Q } (L2.start N vs) H) : HotRun P w K mg base (k + 1) f (PySem.W.fnOf name qual params body scope dV kV doc pm an cdv ct) ps sp := by
  intro A outer s H args us vs Q p x hr hot hpin hz e0 hb r hv hsp
  have hl : vs.length = ps.length := by rw [hv, h1]; rfl
  have lim : s.heap.NoLimit := e0.mod.nolimit.keeps fun b o e => (e0.bs b o e).1
  have KX : K.In s.heap := e0.mod.kin.keeps fun b o e => (e0.bs b o e).1
  have kind : ∀ y ∈ ps.zip us, scope.names.lookup y.1 = some .local ∨ (scope.names.lookup y.1 = some .cell ∧ ((cellsFrom (s.heap.objs.size + 1) scope.names []).lookup y.1).isSome = true) := fun ⟨n, v⟩ hy => by
    rcases S.par n (List.of_mem_zip hy).1 with q | q; exact .inl q
    exact .inr ⟨q, PySem.W.cellsFrom_some _ _ _ (.inl q)⟩
  refine codeAny_call_function hr.depth (KX _ _ lk) rfl S.co S.gen rfl (PySem.W.codeRec_of KX hcd) (hb _ _ _ _ (wpAny_newFunctionEnv_cells S.kind kind fun env he s1 y => ?_))
  subst he; refine ⟨lim.keeps y.toInCall.keep, codeAny_func ?_⟩
  obtain ⟨t, ht, hq⟩ := hbody A outer s H vs Q p x hot hz hv (hr.deeper _) hsp
  refine wpAny_mono (ht.run [] s1 (L2.start N vs) H _ (inv_startH S hpin e0 hl r y) hq) (fun fl s' hs => ?_) fun e s' hs => hs
  cases fl with
  | ret u => obtain ⟨v, σ', H', J, rv, q⟩ := hs; exact ⟨v, H', J.os, J.bare, J.base, J.hok, rv, q⟩
  | next => obtain ⟨σ', H', J, q⟩ := hs; exact ⟨V.non, H', J.os, J.bare, J.base, J.hok, rfl, q⟩
  | brk => obtain ⟨_, _, _, q⟩ := hs; exact False.elim q
  | cont => obtain ⟨_, _, _, q⟩ := hs; exact False.elim q
section
variable {X : Cx} {k : Nat} {f : Addr} {fd : FuncData} {ps : List Str} {sp : Str → Sp} {x c : Str} {q pos : Pos} {e : Expr} {te : TE}
/-- f(e) in the suite that holds the error -/
theorem pe_hot {p : Addr × Obj} (F : HotRun X.prog X.w X.K X.mg X.base k f fd ps sp) (h1 : ps.length = 1) (hr : RoomH k X.A) (hot : Hot1 X.A p) (hp : p ∈ X.pn) (hz : Zc (.ref (He.ga X.K c)) none p.2) (hg : Gl X x) (hm : X.mg x = some (.ref f)) (hk : PySem.W.keepIn X.K (.ref f) = true) (hb : Binds X.K fd ps [])
    (he : PE X e te) (hdb : (x == ("__debug__" : Str)) = false) (hs : starEach [e] X.env = (false, eval e X.env) :: starEach [] X.env) (hpl : (backTo pos (starEach [] X.env)).any (·.1) = false := by rfl) :
    PE X (.Call (.Name x q) [e] [] pos) (fun σ H Q => te σ H fun v H1 => [v] = [.ref p.1] ∧ sp c [v] H1 Q C8.E0) := by
  refine ⟨fun pins s σ H Q I h => ?_⟩
  refine wpAny_Call_Name_kw (ld_glob I hg hm ?_ hdb)
  refine PySem.W.callWith_K (h₀ := X.base) I.ok.mod.kin hk (thn ((pa_cons he pa_nil hs).run pos pins s σ H (fun vs H1 => vs = [.ref p.1] ∧ sp c vs H1 Q C8.E0) I ?_) fun us s1 ⟨vs, H1, I1, r, q1, q2⟩ => ⟨I1.kIn, ?_⟩) hs hpl
  · exact h
  · have hl : us.length = ps.length := by rw [← r.length, q1, h1]; rfl
    have b := hb s1 us I1.kIn (by rw [List.append_nil]; exact hl)
    rw [List.append_nil] at b
    have P1 := I1.pin p (List.mem_append_left _ hp)
    have hpin : PinOk X.stack H1 s1 p := ⟨P1.1, P1.2.1, fun hm => (List.mem_cons.mp (I1.stkSub p.1 hm)).elim P1.2.2.1 P1.2.2.2.1, P1.2.2.2.2⟩
    refine wpAny_call (codeAny_mono (F X.A X.stack s1 H1 ⟨us, []⟩ us vs Q p c hr hot hpin hz I1.env0 b r q1 q2) fun r s' hq => ?_)
    cases r with
    | error e => exact (show False from hq).elim
    | ok fl => cases fl with
      | ret u => exact I1.after hq
      | _ => exact False.elim hq
end
theorem takesN0 {X : Cx} : L2N.Takes X (fun _ _ _ _ => False) := fun _ _ ⟨_, _, _, _, _, _, _, _, _, _, _, _, _, _, _, _, z⟩ => z.elim
/-- what the error def makes of a lambda: no error, the empty text; an error, what sp tells of its class -/
def errTT (K : PySem.W.Frag) (cs : List Str) (r : Str) (sp : Str → Sp) : (XK → Hp → VK → Prop) → Hp → VK → Prop := fun tl H Q =>
  ∃ E : XK, tl E H (fun _ H' => Q (.str r) H') ∧ ∀ cls d H', E cls d H' → ∃ c, c ∈ cs ∧ cls = .ref (He.ga K c) ∧ d = none ∧ ∀ a, H' a = none → sp c [.ref a] H' Q C8.E0
theorem err_gives {X : Cx} {Ng cs : List Str} {x a ec n fn q r : Str} {sg : Scope} {g ff : Addr} {cdg : Value} {j : Nat} {fd : FuncData} {ps : List Str} {sp : Str → Sp} {p1 p2 p3 p4 p5 p6 p7 p8 p9 p10 p11 p12 : Pos}
    (nd : Ng.Nodup) (h0 : Ng[0]? = some a) (h1 : Ng[1]? = some n) (hl : sg.names.lookup n = some .local) (hec : sg.names.lookup ec = some .globalImplicit) (hfn : sg.names.lookup fn = some .globalImplicit)
    (d1 : (ec == ("__debug__" : Str)) = false) (d2 : (fn == ("__debug__" : Str)) = false) (d3 : (n == ("__debug__" : Str)) = false) (d4 : (n == ("__classdict__" : Str)) = false) (mec : X.mg ec = some (.ref (He.ga X.K ec))) (mfn : X.mg fn = some (.ref ff)) (kfn : PySem.W.keepIn X.K (.ref ff) = true)
    (hex : ∀ c ∈ cs, PySem.W.exmOne X.K (.ref (He.ga X.K c)) (.ref (He.ga X.K ec)) = some true) (F : HotRun X.prog X.w X.K X.mg X.base 1 ff fd ps sp) (hps : ps.length = 1) (hb : Binds X.K fd ps []) :
    Gives X Ng x sg g cdg [.Try [.Expr (.Call (.Name a p1) [] [] p2) p3] [.ExceptHandler (some (.Name ec p4)) (some n) [.Return (some (.Call (.Name fn p5) [.Name n p6] [] p7)) p8] p9] [] [] p10, .Return (some (.Constant (.str r) j p11)) p12] a q (errTT X.K cs r sp) := by
  intro f c' s H Q tl hr act hc ⟨Ech, ht, hE⟩
  let XX := (cxOf C8.CX0 X.prog X.w X.K X.mg X.base Ng x sg g cdg X.A X.stack s H C8.E0).nox
  have hroom : RoomH 1 XX.A := roomH_of hr
  have tr : PS XX (.Try [.Expr (.Call (.Name a p1) [] [] p2) p3] [.ExceptHandler (some (.Name ec p4)) (some n) [.Return (some (.Call (.Name fn p5) [.Name n p6] [] p7)) p8] p9] [] [] p10) _ :=
    L2N.ps_try_as (X := XX) (x := ec) (n := n) (c := .ref (He.ga X.K ec)) (i := 1) (Wout := fun _ _ _ _ => False)
      (tb := fun W D σ H => ∃ Ech : XK, (∀ cls d σ' H', Ech cls d H' → W cls d σ' H') ∧ σ[0]? = some (some (.ref f)) ∧ H c' = some (CodeO c' q) ∧ tl Ech H (fun _ H' => D.nx σ H'))
      (ts := fun a cls d D σ H => (∃ c, cls = .ref (He.ga X.K c) ∧ d = none ∧ (1 < σ.length → σ[1]? = some (some (.ref a))) ∧ sp c [.ref a] H D.rt C8.E0))
      rfl rfl nd h1 hl ⟨hec, d1, .inl mec⟩ takesN0 (fun W pn xe tk _ => ?_) (fun a oe cls d pn hz hf => ?_)
  · refine ⟨_, pss_cons tr (pss_one (ps_ret pe_str)), ?_⟩
    refine ⟨Ech, fun cls d σ' H' h => ?_, ?_, hc, ht⟩
    · obtain ⟨c, hcs, e1, e2, e3⟩ := hE cls d H' h
      subst e1 e2
      exact ⟨true, hex c hcs, fun _ a ha => ⟨c, rfl, rfl, fun hl => by rw [List.length_set] at hl; rw [List.getElem?_set_self hl], e3 a ha⟩, fun z => by cases z⟩
    · simp [L2.start]
  · refine ⟨fun pins s' σ H' D I ⟨Ec, hW, h1, h2, h3⟩ => ?_⟩
    exact (pss_one (ps_expr (pos := p3) (act W pn xe Ec p1 p2 tk hW))).run pins s' σ H' D I ⟨h1, h2, h3⟩
  · refine ⟨fun pins s' σ H' D I ⟨c, e1, e2, e3, e4⟩ => ?_⟩
    subst e1 e2
    obtain ⟨vs, hv⟩ := hf
    have len : 1 < σ.length := by
      rw [I.len]
      exact (List.getElem?_eq_some_iff.mp h1).1
    have pv : PE (XX.suite a ((a, oe) :: pn)) (.Name n p6) (tVar 1) := pe_var h1 (.inl hl) d3 d4
    have hp := pe_hot (X := XX.suite a ((a, oe) :: pn)) (p := (a, oe)) (x := fn) (q := p5) (pos := p7) (c := c) F hps ⟨hroom.dp, hroom.un⟩ ⟨rfl, vs, hv, hz.2.2 vs hv⟩ List.mem_cons_self ⟨hz.1, hz.2.1⟩ hfn mfn kfn hb pv d2 rfl
    exact (pss_one (ps_ret (pos := p8) hp)).run pins s' σ H' D I ⟨.ref a, e3 len, rfl, e4⟩
end MPH

end
section
set_option linter.all false
set_option Elab.async false
set_option maxRecDepth 100000
set_option maxHeartbeats 4000000
/-! A lambda handed to the def that tells errors. -/
namespace MP
open PySem PySem.Spec PyProof.Rows L2 L2H MPH
/-- what the def of the names promises -/
def spH (K : PySem.W.Frag) (cn : Program × World × Oa) (cs : List Str) (c : List D → List D → Out (R × List D)) (x : Str) : Sp := fun vs H Q E =>
  x ∈ cs ∧ ∃ Z F, Sok K (c0 cn) Z F H [] [] ∧ match c [] [.str x] with
    | .ok (r, _) => ∀ v F' H', Sub F F' → Sok K (c0 cn) Z F' H' [] [] → RR K Z F' H' [] [] v r → Q v H'
    | _ => False
theorem lock_get {ρ : En} {i : Nat} {s : Sl} (h : (lock ρ)[i]? = some s) : (∃ d, s = .fz d ∧ ρ[i]? = some (.fz d)) ∨ s = .un := by
  unfold lock at h
  rw [List.getElem?_map] at h
  cases e : ρ[i]? with
  | none => rw [e] at h; cases h
  | some u =>
    rw [e] at h
    cases u with
    | fz d => cases h; exact .inl ⟨d, rfl, rfl⟩
    | un => cases h; exact .inr rfl
    | ow ds => cases h; exact .inr rfl
    | od kvs => cases h; exact .inr rfl
section
variable {K : PySem.W.Frag} {cn : Program × World × Oa} {Z F H : Hp} {σ : L2.St} {ρ : En}
theorem Sok.lock (S : Sok K cn Z F H σ ρ) : Sok K cn (frame Z H σ ρ none) F H σ (lock ρ) where
  tb := fun t ht => by
    obtain ⟨x, y, z⟩ := S.tb t ht
    refine ⟨x, y, ?_⟩
    unfold frame
    rw [if_neg (fun q => q z), if_neg]
    rintro ⟨j, _, o⟩
    obtain ⟨ps, h1, _⟩ := x
    obtain ⟨e, ⟨ds, h⟩ | ⟨kvs, h⟩⟩ := o
    · obtain ⟨b, xs, e2, g, _⟩ := S.ow j ds h
      rw [e] at e2; cases e2
      rw [h1] at g; cases g
    · obtain ⟨b, xs, e2, g, _⟩ := S.od j kvs h
      rw [e] at e2; cases e2
      rw [h1] at g; unfold MPS.DTO at g; cases g
  fh := S.fh
  zh := fun a o h => by
    rcases frame_cases (by rw [h]; intro z; cases z) with ⟨_, e⟩ | ⟨_, _, e⟩
    · exact S.zh a o (e ▸ h)
    · exact e ▸ h
  zf := fun a h => by
    rcases frame_cases h with ⟨z, _⟩ | ⟨_, ⟨j, _, o⟩, _⟩
    · exact S.zf a z
    · exact (S.own_there o).2.1
  zt := fun a xs h => by
    rcases frame_cases (by rw [h]; intro z; cases z) with ⟨_, e⟩ | ⟨_, ⟨j, _, o⟩, e⟩
    · exact S.zt a xs (e ▸ h)
    · obtain ⟨u, h1, h2⟩ := (S.own_there o).1
      rw [e, h1] at h
      exact h2 xs (Option.some.inj h)
  len := by unfold MP.lock; rw [List.length_map]; exact S.len
  fz := fun i d h => by
    rcases lock_get h with ⟨d', e, h⟩ | e
    · cases e; exact S.fz i d h
    · cases e
  ow := fun i d h => by
    rcases lock_get h with ⟨d', e, h⟩ | e <;> cases e
  od := fun i d h => by
    rcases lock_get h with ⟨d', e, h⟩ | e <;> cases e
  dj := fun i j a h => by
    obtain ⟨_, ⟨ds, h⟩ | ⟨ds, h⟩⟩ := h
    · rcases lock_get h with ⟨d', e, h⟩ | e <;> cases e
    · rcases lock_get h with ⟨d', e, h⟩ | e <;> cases e
  p0 := S.p0
/-- all that stays when a frame's things are kept -/
theorem Sok.back {F' H' : Hp} (S : Sok K cn Z F H σ ρ) (s : Sub F F') (fh : Sub F' H') (zh : Sub (frame Z H σ ρ none) H') (zf : ∀ a, frame Z H σ ρ none a ≠ none → F' a = none) (tb : ∀ t ∈ cn.2.2.ts, LamX.TabS H' t.1 t.2 ∧ F' t.1 = none) : Sok K cn Z F' H' σ ρ where
  tb := fun t ht => let ⟨x, y⟩ := tb t ht; ⟨x, y, (S.tb t ht).2.2⟩
  fh := fh
  zh := fun a o h => zh a o (by rw [frame_z (by rw [h]; intro z; cases z)]; exact h)
  zf := fun a h => zf a (by rw [frame_z h]; exact h)
  zt := S.zt
  len := S.len
  fz := fun i d h => let ⟨v, e, r⟩ := S.fz i d h; ⟨v, e, r.sub s⟩
  ow := fun i ds h => by
    obtain ⟨a, xs, e, h1, h2, h3, h4⟩ := S.ow i ds h
    have fr := frame_own (H := H) (i := none) h4 (by intro z; cases z) ⟨e, .inl ⟨ds, h⟩⟩
    exact ⟨a, xs, e, zh a _ (fr.trans h1), h2.sub s, zf a (by rw [fr, h1]; intro z; cases z), h4⟩
  od := fun i ds h => by
    obtain ⟨a, xs, e, h1, h2, h3, h4⟩ := S.od i ds h
    have fr := frame_own (H := H) (i := none) h4 (by intro z; cases z) ⟨e, .inr ⟨ds, h⟩⟩
    exact ⟨a, xs, e, zh a _ (fr.trans h1), h2.sub s, zf a (by rw [fr, h1]; intro z; cases z), h4⟩
  dj := S.dj
  p0 := S.p0
/-- behind the making of a lambda -/
theorem Sok.made {P : Addr} {q : Str} {H1 : Hp} (S : Sok K cn Z F H σ ρ) (m : Made P q H H1) (hP : (P, q) ∈ cn.2.2.ts) (one : ∀ t ∈ cn.2.2.ts, t.1 = P → t.2 = q) (tq : LamX.TabS H1 P q) : Sok K cn Z F H1 σ ρ := by
  rcases m with rfl | ⟨ps, more, c, hp, hc, rfl⟩
  · exact S
  have hPn : ∀ {G : Hp}, G P = none → Sub G H → Sub G (upd (upd H P (.tbl (ps ++ more))) c (LamX.CodeO c q)) := fun {G} hG s a o h => by
    have h1 : a ≠ P := fun e => by rw [e, hG] at h; cases h
    have h2 : a ≠ c := fun e => by rw [e, s.none hc] at h; cases h
    rw [upd_ne h2, upd_ne h1]; exact s a o h
  have keep : ∀ {a : Addr} {o : HO}, H a = some o → (∀ ps, o ≠ .tbl ps) → upd (upd H P (.tbl (ps ++ more))) c (LamX.CodeO c q) a = some o := fun {a o} h ho => by
    have h1 : a ≠ P := fun e => by rw [e, hp] at h; exact ho _ (Option.some.inj h).symm
    have h2 : a ≠ c := fun e => by rw [e, hc] at h; cases h
    rw [upd_ne h2, upd_ne h1]; exact h
  obtain ⟨_, tf, tz⟩ := S.tb _ hP
  exact {
    tb := fun t ht => by
      obtain ⟨x, y, z⟩ := S.tb t ht
      refine ⟨?_, y, z⟩
      by_cases e : t.1 = P
      · rw [e, one t ht e]; exact tq
      · obtain ⟨ps', h1, h2, h3⟩ := x
        have ne : t.1 ≠ c := fun e => by rw [e, hc] at h1; cases h1
        refine ⟨ps', by rw [upd_ne ne, upd_ne e]; exact h1, h2, fun pos cv hcv => ?_⟩
        obtain ⟨c0, e1, e2⟩ := h3 pos cv hcv
        exact ⟨c0, e1, keep e2 fun ps z => by unfold LamX.CodeO at z; cases z⟩
    fh := hPn tf S.fh
    zh := hPn tz S.zh
    zf := S.zf
    zt := S.zt
    len := S.len
    fz := S.fz
    ow := fun i ds h => let ⟨a, xs, e, h1, h2⟩ := S.ow i ds h; ⟨a, xs, e, keep h1 fun ps z => (by cases z), h2⟩
    od := fun i ds h => let ⟨a, xs, e, h1, h2⟩ := S.od i ds h; ⟨a, xs, e, keep h1 fun ps z => (by unfold MPS.DTO at z; cases z), h2⟩
    dj := S.dj
    p0 := S.p0 }
theorem Sok.c0 (S : Sok K cn Z F H σ ρ) : Sok K (c0 cn) (frame Z H σ ρ none) F H [] [] where
  tb := S.lock.tb
  fh := S.fh
  zh := S.lock.zh
  zf := S.lock.zf
  zt := S.lock.zt
  len := rfl
  fz := fun i d h => by simp at h
  ow := fun i d h => by simp at h
  od := fun i d h => by simp at h
  dj := fun i j a h => by obtain ⟨h, _⟩ := h; simp at h
  p0 := fun a h => by cases h
end
/-- Gives, of any context of the module -/
def GivesP (P : Program) (w : World) (K : PySem.W.Frag) (mg : Str → Option Value) (base : Heap) (Ng : List Str) (x : Str) (sg : Scope) (g : Addr) (cdg : Value) (bg : List Stmt) (a : Str) (q : Str) (TT : (XK → Hp → VK → Prop) → Hp → VK → Prop) : Prop :=
  ∀ X : Cx, X.prog = P → X.w = w → X.K = K → X.mg = mg → X.base = base → Gives X Ng x sg g cdg bg a q TT
/-- the def that tells errors, and the one of the names -/
structure ErrOk (X : Cx) (C : CallF) (oa : Oa) (ef nf : Str) : Prop where
  mg : X.mg ef = some (.ref (He.ga X.K ef))
  kp : PySem.W.keepIn X.K (.ref (He.ga X.K ef)) = true
  ok : ∃ (pg : Arguments) (bg : List Stmt) (sg : Scope) (dV kV doc pm cdv ct oc : Value) (an od : Option Addr) (osl : Array (Option Value)) (Ng cs : List Str) (a : Str),
    X.K.lookup (He.ga X.K ef) = some ⟨oc, od, .func (PySem.W.fnOf ef ef pg bg sg dV kV doc pm an cdv ct), osl⟩ ∧ PySem.W.codeIn X.K cdv ef = true ∧ L2.Binds X.K (PySem.W.fnOf ef ef pg bg sg dV kV doc pm an cdv ct) [a] [] ∧ FnScope Ng [a] sg ∧ Ng[0]? = some a ∧ Vis sg a ∧
    (a == ("__debug__" : Str)) = false ∧ (a == ("__classdict__" : Str)) = false ∧ (∀ q, GivesP X.prog X.w X.K X.mg X.base Ng ef sg (He.ga X.K ef) cdv bg a q (errTT X.K cs ⟨#[]⟩ (spH X.K (X.prog, X.w, oa) cs (C nf)))) ∧
    ∀ x r, C nf [] [.str x] = .ok r → x ∈ cs
/-- what a def that makes lambdas needs -/
def LamOk (X : Cx) (k : Nat) (oa : Oa) : Prop := ∃ c P, LamX.TabB X.base X.mg c P ∧ X.env.code = .ref c ∧ (P, X.env.qual ++ "<lambda>") ∈ oa.ts ∧ (∀ t ∈ oa.ts, t.1 = P → t.2 = X.env.qual ++ "<lambda>") ∧ Room (k + 2) X.A
section
variable {X : Cx} {C : CallF} {oa : Oa} {W : WX} {k : Nat} {ef nf : Str} {params : Arguments} {body : Expr} {scope : Scope} {ml : ME} {p lpos pos : Pos}
theorem s_tryn (Er : ErrOk X C oa ef nf) (La : LamOk X k oa) (hg : Gl X ef) (L : LamX.LamS X.env.scope scope) (hdef : defaultsOf params X.env = ([], []))
    (hbind : ∀ (q : Str) (cl : List (Str × Addr)) (pm cv ctv : Value), bindArgs (PySem.W.kla_fn "<lambda>" q params body scope cl pm cv ctv) ⟨[], []⟩ = pure [])
    (hbody : ∀ (A : Around) (outer : List Env) (s : Shared) (H : Hp) (E : XK) (f c' : Addr), Room k (A.deeper (lEnv X scope s.heap.objs.size f c')) → PE (lamC X A outer s H E scope f c') body (tE X.K (X.prog, X.w, oa) (fun cls d _ H => E cls d H) (ev C ml)))
    (hdb : (ef == ("__debug__" : Str)) = false) : PE X (.Call (.Name ef p) [.Lambda params body scope lpos] [] pos) (tE X.K (X.prog, X.w, oa) W (ev C (.tryn nf ml))) := by
  obtain ⟨pg, bg, sg, dV, kV, doc, pm, cdv, ct, oc, an, od, osl, Ng, cs, a, lk, hcg, hb, Sg, hNg, hva, hd, hcd, hG, hcs⟩ := Er.ok
  obtain ⟨c, P, TB, hcode, hP, one, hr⟩ := La
  refine PE.weak (pe_lamN (t := fun E => tE X.K (X.prog, X.w, oa) (fun cls d _ H => E cls d H) (ev C ml)) hg Er.mg Er.kp lk hcg hb Sg hNg hva (hG (X.env.qual ++ "<lambda>") X rfl rfl rfl rfl rfl) TB hcode hr L hdef hbind hbody hdb hd hcd) fun σ H Q ⟨Z, F, ρ, S, q⟩ => ?_
  refine ⟨(S.tb _ hP).1, fun H1 m t1 => ?_⟩
  have S1 := S.made m hP one t1
  have q : Post (match ev C ml (lock ρ) with
    | .ok _ => Out.ok (R.v (.str ⟨#[]⟩), ρ)
    | .err e => (noErr (C nf [] [.str e.cls])).bind fun (r, _) => .ok (r, ρ)
    | .bad => .bad) (fun r ρ' => ∀ v F' H', Sub F F' → Sok X.K (X.prog, X.w, oa) Z F' H' σ ρ' → RR X.K Z F' H' σ ρ' v r → Q v H') (EE X.K (X.prog, X.w, oa) Z F W σ) := q
  cases e : ev C ml (lock ρ) with
  | bad => rw [e] at q; exact q.elim
  | ok pr =>
    obtain ⟨r, ρ1⟩ := pr
    rw [e] at q
    refine ⟨fun _ _ _ => False, ⟨frame Z H1 σ ρ none, F, lock ρ, S1.lock, ?_⟩, fun _ _ _ h => h.elim⟩
    rw [e]
    intro v F' H' s' S' rr
    exact q (.str ⟨#[]⟩) F' H' s' (S1.back s' S'.fh S'.zh S'.zf fun t ht => ⟨(S'.tb t ht).1, (S'.tb t ht).2.1⟩) (.str _)
  | err ex =>
    rw [e] at q
    refine ⟨fun cls d H' => cls = .ref (He.ga X.K ex.cls) ∧ d = none ∧ ∃ F', Sub F F' ∧ Sub F' H' ∧ Sub (frame Z H1 σ ρ none) H' ∧ (∀ a, frame Z H1 σ ρ none a ≠ none → F' a = none) ∧ ∀ t ∈ oa.ts, LamX.TabS H' t.1 t.2 ∧ F' t.1 = none, ⟨frame Z H1 σ ρ none, F, lock ρ, S1.lock, ?_⟩, ?_⟩
    · rw [e]
      exact fun F' H' a1 a2 a3 a4 a5 => ⟨rfl, rfl, F', a1, a2, a3, a4, a5⟩
    · rintro cls d H' ⟨rfl, rfl, F', a1, a2, a3, a4, a5⟩
      cases e2 : C nf [] [.str ex.cls] with
      | bad => dsimp only at q; rw [e2] at q; exact q.elim
      | err e3 => dsimp only at q; rw [e2] at q; exact q.elim
      | ok pr =>
        obtain ⟨r, ys⟩ := pr
        have hx := hcs ex.cls _ e2
        dsimp only at q
        rw [e2] at q
        have S2 := S1.back a1 a2 a3 a4 a5
        refine ⟨ex.cls, hx, rfl, rfl, fun a _ => ⟨hx, frame Z H' σ ρ none, F', S2.c0, ?_⟩⟩
        rw [e2]
        exact fun v F2 H2 s2 S3 rr => q v F2 H2 (a1.trans s2) (S2.leave s2 S3) (RR.leave S2 rr)
end
end MP

end
section
set_option linter.all false
set_option Elab.async false
set_option maxRecDepth 100000
set_option maxHeartbeats 4000000
/-! split, join. -/
namespace MP
open PySem PySem.Spec PyProof.Rows L2 TL
theorem spl_splitOn : ∀ (l acc : List Nat), spl [32] 0 acc l = splitOn 32 acc.reverse l
  | [], acc => by simp [spl, splitOn]
  | c :: r, acc => by
    unfold spl splitOn
    by_cases h : c = 32
    · subst h
      rw [if_pos (by simp [pre]), if_pos rfl, List.reverse_reverse]
      have := spl_splitOn r []
      rw [List.reverse_nil] at this
      rw [show ([32] : List Nat).length - 1 = 0 from rfl, this]
    · have hp : pre [32] (c :: r) = false := by
        simp [pre, h]
      rw [hp, if_neg (by simp), if_neg h, spl_splitOn r (acc ++ [c])]
      simp
theorem joinS_L (s : List Nat) : ∀ l : List (List Nat), joinS s l = joinL s l
  | [] => rfl
  | [_] => rfl
  | x :: y :: r => by
    show x ++ s ++ joinS s (y :: r) = x ++ (s ++ joinL s (y :: r))
    rw [joinS_L s (y :: r), List.append_assoc]
theorem tl_S (x : Str) : S (tl x) = .str x := rfl
theorem len_line {x : Str} : x.length = x.cps.size := rfl
theorem strsD_of {K : PySem.W.Frag} {F : Hp} : ∀ {ds : List D} {l : List (List Nat)} {xs : List V}, strsD ds = some l → RpL K F xs ds → ∃ ys : List Str, xs = ys.map V.str ∧ ys.map tl = l
  | [], l, xs, h, r => by cases h; cases r; exact ⟨[], rfl, rfl⟩
  | .str x :: ds, l, xs, h, r => by
    unfold strsD at h
    cases e : strsD ds with
    | none => rw [e] at h; cases h
    | some m =>
      rw [e] at h
      cases h
      cases r with
      | cons r1 r2 =>
        cases r1
        obtain ⟨ys, h1, h2⟩ := strsD_of e r2
        exact ⟨x :: ys, by rw [h1] <;> rfl, by rw [List.map_cons, h2] <;> rfl⟩
  | .non :: _, _, _, h, _ => by cases h
  | .bl _ :: _, _, _, h, _ => by cases h
  | .int _ :: _, _, _, h, _ => by cases h
  | .tup _ :: _, _, _, h, _ => by cases h
  | .lst _ :: _, _, _, h, _ => by cases h
  | .frz _ :: _, _, _, h, _ => by cases h
  | .fn _ :: _, _, _, h, _ => by cases h
  | .dic _ :: _, _, _, h, _ => by cases h
theorem bsplit_is {x y : D} {r1 : R} (h : bsplit x y = .ok r1) : ∃ a b : Str, x = .str a ∧ y = .str b ∧ b.cps.toList = [32] ∧ a.cps.size + 2 ≤ line ∧ r1 = .o ((splitOn 32 [] a.cps.toList).map MP.S) := by
  unfold bsplit at h
  split at h
  · split at h
    · rename_i hc; cases h; exact ⟨_, _, rfl, rfl, hc.1, hc.2, rfl⟩
    · cases h
  · cases h
theorem bjoin_is {x y : D} {r1 : R} (h : bjoin x y = .ok r1) : ∃ (s : Str) (ds : List D) (l : List (List Nat)), x = .str s ∧ y = .lst ds ∧ strsD ds = some l ∧ s.cps.size ≤ 1 ∧ sumLen l ≤ 1000000 ∧ r1 = .v (MP.S (joinS s.cps.toList l)) := by
  unfold bjoin at h
  split at h
  · split at h
    · rename_i hl
      split at h
      · rename_i hc; cases h; exact ⟨_, _, _, rfl, rfl, hl, hc.1, hc.2, rfl⟩
      · cases h
    · cases h
  · cases h
theorem bsplit_noerr {x y : D} {e : Ex} : bsplit x y ≠ .err e := by unfold bsplit; split <;> (try split) <;> intro h <;> cases h
theorem bjoin_noerr {x y : D} {e : Ex} : bjoin x y ≠ .err e := by unfold bjoin; split <;> (try split) <;> (try split) <;> intro h <;> cases h
theorem Rp.strs {K : PySem.W.Frag} {F : Hp} : ∀ ys : List Str, RpL K F (ys.map V.str) (ys.map fun x => D.str x)
  | [] => .nil
  | y :: ys => .cons (.str _) (Rp.strs ys)
theorem sum_len : ∀ ys : List Str, (ys.map (·.length)).sum + ys.length ≤ sumLen (ys.map tl)
  | [] => Nat.le_refl _
  | y :: ys => by
    have := sum_len ys
    have e : (tl y).length = y.length := (len_tl y).symm
    simp only [List.map_cons, List.sum_cons, List.length_cons, sumLen, e]
    omega
section
variable {X : Cx} {cn : Program × World × Oa} {W : WX} {o a : Expr} {pos p apos p2 : Pos} {j : Nat} {f f' : En → Out (R × En)} {s : Str} {C : CallF}
/-- x.split(" ") -/
theorem s_split {m : ME} (ho : PE X o (tE X.K cn W (ev C m))) (hbase : attributeBase o "split" X.env (eval o X.env) = eval o X.env) (hline : (apos.endLine == pos.line) = true) :
    PE X (.Call (.Attribute o "split" apos) [.Constant (.str s) j p2] [] pos) (tE X.K cn W (ev C (.bi .split (.cons m (.cons (.con (.str s)) .nil))))) := by
  refine PE.weak (pe_split ho pe_str rfl hbase hline) fun σ H Q ⟨Z, F, ρ, S, q⟩ => ?_
  have q : Post ((ev C m ρ).bind fun (x, env) => (bsplit x.d (.str s)).bind fun r => .ok (r, env)) (fun r ρ' => ∀ v F' H', Sub F F' → Sok X.K cn Z F' H' σ ρ' → RR X.K Z F' H' σ ρ' v r → Q v H') (EE X.K cn Z F W σ) := by
    have e0 : ev C (.bi .split (.cons m (.cons (.con (.str s)) .nil))) ρ = (ev C m ρ).bind fun (x, env) => (bsplit x.d (.str s)).bind fun r => .ok (r, env) := by
      show ((((ev C m ρ).bind _)).bind _) = _
      cases ev C m ρ <;> rfl
    rw [e0] at q; exact q
  refine tE.seq S q fun r ρ1 v F1 H1 s1 S1 rx q1 => ?_
  obtain ⟨r3, h3, q3⟩ := Post.bind0 q1 fun e => bsplit_noerr
  obtain ⟨a, b, h1, h2, h4, h5, rfl⟩ := bsplit_is h3
  cases h2
  rw [h1] at rx
  have ex := rx.inv_str
  subst ex
  have hb : tl s = [32] := h4
  refine ⟨⟨a, rfl⟩, a, s, rfl, rfl, ?_, by rw [← line_eq]; exact h5, fun t ht => ?_⟩
  · show (s.cps.size == 0) = false
    rw [← Array.length_toList, h4]; rfl
  · have hy : (Txt.split a s).map tl = splitOn 32 [] (tl a) := by
      have hk : s.cps.all (· < 256) = true := by
        have e : s.cps = #[32] := by
          have := congrArg List.toArray h4
          simpa using this
        rw [e]; simp
      rw [split_spl a s (by rw [hb]; simp) (kind_ok hk), hb, spl_splitOn]; rfl
    refine q3 _ F1 _ s1 (S1.new ht _) ?_
    have e5 : (splitOn 32 [] a.cps.toList).map MP.S = (Txt.split a s).map fun x => D.str x := by
      show (splitOn 32 [] (tl a)).map MP.S = _
      rw [← hy, List.map_map]
      exact List.map_congr_left fun x _ => tl_S x
    rw [e5]
    exact RR.new_lst S1 ht (Rp.strs _)
/-- x.upper() -/
theorem s_upper {m : ME} (ho : PE X o (tE X.K cn W (ev C m))) (hbase : attributeBase o "upper" X.env (eval o X.env) = eval o X.env) (hline : (apos.endLine == pos.line) = true) :
    PE X (.Call (.Attribute o "upper" apos) [] [] pos) (tE X.K cn W (ev C (.bi .upper (.cons m .nil)))) := by
  refine PE.weak (pe_m0 PySem.F.slot_str_upper PySem.F.type_str_upper mt_upper ho hbase hline) fun σ H Q ⟨Z, F, ρ, S, q⟩ => ?_
  have q : Post ((ev C m ρ).bind fun (x, env) => (bupper x.d).bind fun r => .ok (r, env)) (fun r ρ' => ∀ v F' H', Sub F F' → Sok X.K cn Z F' H' σ ρ' → RR X.K Z F' H' σ ρ' v r → Q v H') (EE X.K cn Z F W σ) := by
    have e0 : ev C (.bi .upper (.cons m .nil)) ρ = (ev C m ρ).bind fun (x, env) => (bupper x.d).bind fun r => .ok (r, env) := by
      show ((((ev C m ρ).bind _)).bind _) = _
      cases ev C m ρ <;> rfl
    rw [e0] at q; exact q
  refine tE.seq S q fun r ρ1 v F1 H1 s1 S1 rx q1 => ?_
  obtain ⟨r3, h3, q3⟩ := Post.bind0 q1 fun e => by unfold bupper; split <;> (try split) <;> intro h <;> cases h
  unfold bupper at h3
  split at h3
  · rename_i x hx
    rw [hx] at rx
    have ex := rx.inv_str
    subst ex
    split at h3
    · rename_i hc
      cases h3
      rw [Bool.and_eq_true, decide_eq_true_eq] at hc
      have hl : x.length ≤ 1000000 := hc.2
      refine ⟨⟨x, rfl⟩, x, rfl, rfl, by omega, ?_⟩
      have e : Txt.upper x = ⟨(MP.upper x.cps.toList).toArray⟩ := by
        have hall : ∀ c ∈ x.cps.toList, c < 128 := fun c hc' => by
          have h := hc.1
          unfold strOk at h
          rw [← Array.all_toList, List.all_eq_true] at h
          simpa using h c hc'
        rw [PyProof.Rows.upper_ascii (x := x) hall]
        have e : (x.cps.toList.map PyProof.Rows.up1).toArray = x.cps.map PyProof.Rows.up1 := by rw [← Array.toList_map]
        show _ = Str.mk (x.cps.toList.map PyProof.Rows.up1).toArray
        rw [e]
      rw [e]
      exact q3 _ F1 H1 s1 S1 (.str _)
    · cases h3
  · cases h3
/-- "..".join(xs) -/
theorem s_join {m : ME} (ha : PE X a (tE X.K cn W (ev C m))) (hs : starEach [a] X.env = [(false, eval a X.env)]) (hline : (apos.endLine == pos.line) = true) :
    PE X (.Call (.Attribute (.Constant (.str s) j p2) "join" apos) [a] [] pos) (tE X.K cn W (ev C (.bi .join (.cons (.con (.str s)) (.cons m .nil))))) := by
  refine PE.weak (pe_join pe_str ha hs rfl hline) fun σ H Q ⟨Z, F, ρ, S, q⟩ => ?_
  have q : Post ((ev C m ρ).bind fun (x, env) => (bjoin (.str s) x.d).bind fun r => .ok (r, env)) (fun r ρ' => ∀ v F' H', Sub F F' → Sok X.K cn Z F' H' σ ρ' → RR X.K Z F' H' σ ρ' v r → Q v H') (EE X.K cn Z F W σ) := by
    have e0 : ev C (.bi .join (.cons (.con (.str s)) (.cons m .nil))) ρ = (ev C m ρ).bind fun (x, env) => (bjoin (.str s) x.d).bind fun r => .ok (r, env) := by
      show (((Out.ok (R.v (D.str s), ρ)).bind _).bind _) = _
      show ((((ev C m ρ).bind _).bind _).bind _) = _
      cases ev C m ρ <;> rfl
    rw [e0] at q; exact q
  refine ⟨⟨s, rfl⟩, ?_⟩
  refine tE.seq S q fun r ρ1 v F1 H1 s1 S1 rx q1 => ?_
  obtain ⟨r3, h3, q3⟩ := Post.bind0 q1 fun e => bjoin_noerr
  obtain ⟨s', ds, l, h1, h2, h4, h5, h6, rfl⟩ := bjoin_is h3
  cases h1
  rw [h2] at rx
  obtain ⟨p, xs, rfl, g1, g2⟩ := rx.inv_lst
  obtain ⟨ys, rfl, g3⟩ := strsD_of h4 g2
  have hsum := sum_len ys
  rw [g3] at hsum
  refine ⟨s, p, ys, rfl, rfl, .inl (SqL.of (S1.fh _ _ g1)), ?_, ?_⟩
  · have hm : ys.length * s.length ≤ ys.length := by
      have : s.length ≤ 1 := h5
      exact Nat.le_trans (Nat.mul_le_mul_left _ this) (by omega)
    omega
  · refine q3 _ F1 H1 s1 S1 ?_
    have e : MP.S (joinS s.cps.toList l) = .str (Txt.join s ys) := by
      rw [← tl_S, join_eq, tl_join, g3, joinS_L] <;> rfl
    rw [e]
    exact .str _
end
end MP

end
section
set_option linter.all false
set_option Elab.async false
set_option maxRecDepth 100000
set_option maxHeartbeats 4000000
/-! isinstance of the handled error; the words whose flag is true. -/
namespace MP
open PySem PySem.Spec PyProof.Rows L2
theorem call_isP {X : Cx} {a D : Addr} {oe : Obj} (C : ExcC X.K D) (hp : (a, oe) ∈ X.pn) (hz : Zc (.ref D) none oe) (hf : ∃ vs, oe.data = .fields vs) : CallR X (.builtin "isinstance") (rIsE X.K D a) := by
  intro pins s σ H xs us Q I r ⟨c, cv, b, hx, hcv, e, q⟩
  subst hx
  cases r with
  | cons rx rr => cases rr with
    | cons rt rr =>
      cases rr; cases rx
      have ec := hcv _ rt; subst ec
      obtain ⟨hget, _⟩ := I.pin (a, oe) (List.mem_append_left _ hp); obtain ⟨vs, hv⟩ := hf
      have J : PySem.W.InstAt s.heap a oe D none := by
        obtain ⟨oc, od, oda, osl⟩ := oe; obtain ⟨h1, h2⟩ := hz
        dsimp only at h1 h2 hv; subst h1 h2 hv; exact ⟨hget, rfl, rfl, trivial⟩
      exact PySem.W.kia_one (PySem.W.handS_kitx_exc C.hg C.hk C.hs C.hd C.ha C.hn C.ht C.hm) I.kIn J e (fun z => nomatch z) fun tk => ⟨.bl b, H, I.kept (t' := tk) fun _ _ z => z, rfl, q⟩
section
variable {X : Cx} {cn : Program × World × Oa} {W : WX} {pos p pe pc : Pos} {C : CallF} {e c : Str}
theorem s_isx {a D : Addr} {oe : Obj} {v : V} {cv : Value} {b : Bool} (hg : Gl X "isinstance") (hm : X.mg "isinstance" = none) (he : PE X (.Name e pe) (tVar 0)) (hc : PE X (.Name c pc) (tC v)) (hcv : ∀ u, RelV v u → u = cv) (hk : PySem.W.kitOne X.K (.ref D) cv = some b)
    (hown : cn.2.2.own = some a) (E : ExcC X.K D) (hp : (a, oe) ∈ X.pn) (hz : Zc (.ref D) none oe) (hf : ∃ vs, oe.data = .fields vs) (hC : C c [] [] = .ok (.v (.bl b), [])) :
    PE X (.Call (.Name "isinstance" p) [.Name e pe, .Name c pc] [] pos) (tE X.K cn W (ev C (.isx c))) := by
  refine PE.weak (pe_callB (call_isP E hp hz hf) hg hm (by rfl) (pa_cons he (pa_cons hc pa_nil rfl) rfl) (by decide) (by decide) rfl rfl) fun σ H Q ⟨Z, F, ρ, S, q⟩ => ?_
  have q : Post (Out.ok (R.v (.bl b), ρ)) (fun r ρ' => ∀ v F' H', Sub F F' → Sok X.K cn Z F' H' σ ρ' → RR X.K Z F' H' σ ρ' v r → Q v H') (EE X.K cn Z F W σ) := by
    have e0 : ev C (.isx c) ρ = Out.ok (R.v (.bl b), ρ) := by
      show (C c [] []).bind _ = _
      rw [hC]; rfl
    rw [e0] at q; exact q
  exact ⟨_, S.p0 a hown, _, cv, b, rfl, hcv, hk, q _ F H (Sub.refl F) S (.bl b)⟩
end
/-- the items whose flag is true -/
def selG {α : Type} (xs : List α) (bs : List Bool) : List α := (xs.zip bs).filterMap fun p => if p.2 then some p.1 else none
theorem selG_cons {α : Type} (x : α) (xs : List α) (b : Bool) (bs : List Bool) : selG (x :: xs) (b :: bs) = if b then x :: selG xs bs else selG xs bs := by
  unfold selG
  rw [List.zip_cons_cons, List.filterMap_cons]
  cases b <;> rfl
theorem sel_eq (xs : List Value) (bs : List Bool) : MPH.sel xs bs = selG xs bs := rfl
theorem selG_len {α : Type} : ∀ (xs : List α) (bs : List Bool), (selG xs bs).length ≤ xs.length
  | [], _ => by simp [selG]
  | _ :: _, [] => by simp [selG]
  | x :: xs, b :: bs => by
    rw [selG_cons]
    have := selG_len xs bs
    cases b <;> simp <;> omega
theorem Vals.sel : ∀ {xs : List V} {us : List Value} (bs : List Bool), Vals xs us → Vals (selG xs bs) (selG us bs)
  | _, _, [], .nil => .nil
  | _, _, _ :: _, .nil => .nil
  | _, _, [], .cons _ _ => .nil
  | _, _, b :: bs, .cons h t => by
    rw [selG_cons, selG_cons]
    cases b
    · exact Vals.sel bs t
    · exact .cons h (Vals.sel bs t)
theorem selD_of {K : PySem.W.Frag} {F : Hp} : ∀ {ds es r : List D} {xs ys : List V}, selD ds es = some r → RpL K F xs ds → RpL K F ys es → ∃ bs : List Bool, ys = bs.map V.bl ∧ xs.length = bs.length ∧ RpL K F (selG xs bs) r
  | [], [], r, xs, ys, h, rx, ry => by
    cases h; cases rx; cases ry
    exact ⟨[], rfl, rfl, .nil⟩
  | d :: ds, .bl b :: es, r, xs, ys, h, rx, ry => by
    unfold selD at h
    cases e : selD ds es with
    | none => rw [e] at h; cases h
    | some m =>
      rw [e] at h
      cases h
      cases rx with
      | cons x1 x2 =>
        cases ry with
        | cons y1 y2 =>
          cases y1
          obtain ⟨bs, h1, h2, h3⟩ := selD_of e x2 y2
          refine ⟨b :: bs, by rw [h1] <;> rfl, by simp [h2], ?_⟩
          rw [selG_cons]
          cases b
          · exact h3
          · exact .cons x1 h3
  | [], _ :: _, _, _, _, h, _, _ => by cases h
  | _ :: _, [], _, _, _, h, _, _ => by simp [selD] at h
  | _ :: _, .non :: _, _, _, _, h, _, _ => by simp [selD] at h
  | _ :: _, .int _ :: _, _, _, _, h, _, _ => by simp [selD] at h
  | _ :: _, .str _ :: _, _, _, _, h, _, _ => by simp [selD] at h
  | _ :: _, .tup _ :: _, _, _, _, h, _, _ => by simp [selD] at h
  | _ :: _, .lst _ :: _, _, _, _, h, _, _ => by simp [selD] at h
  | _ :: _, .frz _ :: _, _, _, _, h, _, _ => by simp [selD] at h
  | _ :: _, .fn _ :: _, _, _, _, h, _, _ => by simp [selD] at h
  | _ :: _, .dic _ :: _, _, _, _, h, _, _ => by simp [selD] at h
theorem vals_bl : ∀ {bs : List Bool} {us : List Value}, Vals (bs.map V.bl) us → us = bs.map Value.bool
  | [], _, .nil => rfl
  | b :: bs, _, .cons h t => by
    cases h
    rw [vals_bl t] <;> rfl
/-- a comprehension's block that has the names word and good, and no others -/
def hselSc (scope : Scope) : Bool := (match scope.kind with | .function => true | _ => false) && (scope.names.all fun y => decide (y.2 = .local) && decide (scope.names.lookup y.1 = some .local)) &&
  decide (scope.names.lookup ("word" : Str) = some .local) && decide (scope.names.lookup ("good" : Str) = some .local)
section
variable {X : Cx} {cn : Program × World × Oa} {W : WX} {pos : Pos} {C : CallF}
theorem s_hsel {a b : Expr} {ma mb : ME} {pz pz2 pa pb pt pe pg : Pos} {kk : Nat} {scope : Scope} {x1 : Addr} {oe : Obj} {ws : Array Value} (hsc : hselSc scope = true) (hg : Gl X "zip") (hm : X.mg "zip" = none) (hh : X.A.handled = some (.ref x1)) (hp : (x1, oe) ∈ X.pn) (d1 : oe.data = .fields ws) (c1 : ws[2]? = some .none)
    (ha : PE X a (tE X.K cn W (ev C ma))) (hb : PE X b (tE X.K cn W (ev C mb))) (st : starEach [a, b] X.env = (false, eval a X.env) :: starEach [b] X.env) (st2 : starEach [b] X.env = [(false, eval b X.env)]) :
    PE X (.ListComp (.Name "word" pe) [⟨.Tuple [.Name "word" pa, .Name "good" pb] kk pt, .Call (.Name "zip" pz) [a, b] [] pz2, [.Name "good" pg], 0⟩] scope pos) (tE X.K cn W (ev C (.hsel ma mb))) := by
  unfold hselSc at hsc
  simp only [Bool.and_eq_true, List.all_eq_true, decide_eq_true_eq] at hsc
  obtain ⟨⟨⟨k1, k2⟩, k3⟩, k4⟩ := hsc
  have hkind : scope.kind = .function := by
    split at k1
    · assumption
    · cases k1
  refine ⟨fun pins s σ H Q I ⟨Z, F, ρ, S, q⟩ => ?_⟩
  refine ListComp_goes (closure_ok fun y hy e => by rw [(k2 y hy).1] at e; cases e) (fun y hy e => by rw [(k2 y hy).1] at e; cases e) hkind (fun y hy _ => (k2 y hy).2) ?_
  have PA2 := s_cons (cn := cn) (W := W) ha (s_cons hb s_nil st2) st
  refine Call_ (ld_blt I hg hm PyProof.Rows.boot_zip (PyProof.Rows.callWith_type1 (thn (PA2.run pz2 pins s σ H (fun vs H1 => ∃ p1 p2 xs bs, vs = [.ref p1, .ref p2] ∧ H1 p1 = some (.lst xs) ∧ H1 p2 = some (.lst (bs.map V.bl)) ∧ xs.length = bs.length ∧ ∀ D, H1 D = none → Q (.ref D) (upd H1 D (.lst (selG xs bs)))) I ?_) fun us s1 ⟨vs, H1, I1, r1, p1, p2, xs, bs, ev_, h1, h2, hl, hQ⟩ => ?_) st (by rw [st2]; rfl)))
  · have e0 : ev C (.hsel ma mb) ρ = (evs C (.cons ma (.cons mb .nil)) ρ).bind fun (ds, env) => match ds with
        | [.lst ds, .lst es] => (match selD ds es with | some r => .ok (.o r, env) | none => .bad)
        | _ => .bad := by
      show (ev C ma ρ).bind _ = ((ev C ma ρ).bind _).bind _
      cases ev C ma ρ with
      | ok p =>
        obtain ⟨x, ρ1⟩ := p
        dsimp only [Out.bind]
        show (ev C mb ρ1).bind _ = (((ev C mb ρ1).bind _).bind _).bind _
        cases ev C mb ρ1 with
        | ok p =>
          obtain ⟨y, ρ2⟩ := p
          show (match x.d, y.d with
            | .lst ds, .lst bs => (match selD ds bs with | some r => Out.ok (R.o r, ρ2) | none => .bad)
            | _, _ => .bad) = (match [x.d, y.d] with
            | [.lst ds, .lst es] => (match selD ds es with | some r => .ok (.o r, ρ2) | none => .bad)
            | _ => .bad)
          cases x.d <;> cases y.d <;> rfl
        | err _ => rfl
        | bad => rfl
      | err _ => rfl
      | bad => rfl
    rw [e0] at q
    refine tA.seq S q fun ds ρ1 vs F1 H1 s1 S1 r1 q1 => ?_
    dsimp only at q1
    split at q1
    · rename_i ds es
      split at q1
      · rename_i r hr
        cases r1 with
        | cons rx r1 =>
          cases r1 with
          | cons ry r1 =>
            cases r1
            obtain ⟨p1, xs, rfl, g1, g2⟩ := rx.inv_lst
            obtain ⟨p2, ys, rfl, g3, g4⟩ := ry.inv_lst
            obtain ⟨bs, rfl, hl, hr2⟩ := selD_of hr g2 g4
            exact ⟨p1, p2, xs, bs, rfl, S1.fh _ _ g1, S1.fh _ _ g3, hl, fun D hD => q1 _ F1 _ s1 (S1.new hD _) (RR.new_lst S1 hD hr2)⟩
      · exact q1.elim
    · exact q1.elim
  · subst ev_
    cases r1 with
    | cons rx r1 =>
      cases r1 with
      | cons ry r1 =>
        cases r1; cases rx; cases ry
        obtain ⟨its, rv, pl, hz⟩ := I1.list (SqL.of h1)
        obtain ⟨its2, rv2, pl2, hz2⟩ := I1.list (SqL.of h2)
        have e2 := vals_bl rv2
        subst e2
        have P1 := I1.pin (x1, oe) (List.mem_append_left _ hp)
        have hsz : its.length = xs.length := rv.length.symm
        refine MPH.sel_zip hh P1.1 d1 c1 hkind k3 k4 pl.isList pl2.isList (by simp [hsz, hl]) (by simp [hsz]; exact hz) fun D h' tk hD hpl keep => ?_
        have hDn : H1 D = none := I1.hok.fresh hD
        obtain ⟨n, hget⟩ := hpl
        refine ⟨.ref D, upd H1 D (.lst (selG xs bs)), I1.laid (o := .lst (selG xs bs)) (t' := tk) keep hD ⟨Nat.le_trans (selG_len xs bs) hz, _, n, Vals.sel bs rv, hget⟩, rfl, hQ D hDn⟩
end
end MP

end
section
set_option linter.all false
set_option Elab.async false
set_option maxRecDepth 100000
set_option maxHeartbeats 4000000
/-! A local name that is called; things turned round. -/
namespace MP
open PySem PySem.Spec PyProof.Rows L2
section
variable {X : Cx} {cn : Program × World × Oa} {W : WX} {e a b c tg : Expr} {pos p apos : Pos} {f f' f'' : En → Out (R × En)} {C : CallF} {es : List Expr} {h : En → Out (List D × En)} {k : Nat}
/-- x(e, ..), x a name that holds a def -/
theorem s_callv {fs : List Str} {x : Str} {i : Nat} (hF : ∀ g, fs.contains g = true → ∃ np, Fnd X cn C k g false np) (hr : Room k X.A) (tk : L2N.Takes X W) (hN : X.N[i]? = some x) (hv : Vis X.env.scope x) (ha : PA X (e :: es) (tA X.K cn W h))
    (hdb : (x == ("__debug__" : Str)) = false) (hcd : (x == ("__classdict__" : Str)) = false) (he : starEach (e :: es) X.env = (false, eval e X.env) :: starEach es X.env) (hpl : (backTo pos (starEach es X.env)).any (·.1) = false) :
    PE X (.Call (.Name x p) (e :: es) [] pos) (tE X.K cn W fun env => match get env i with
      | .fz (.fn f) => if fs.contains f then (h env).bind fun (ds, env) => (C f [] ds).bind fun (r, _) => .ok (r, env) else .bad
      | _ => .bad) := by
  refine ⟨fun pins s σ H Q I ⟨Z, F, ρ, S, q⟩ => ?_⟩
  dsimp only at q
  split at q
  · rename_i g hg
    split at q
    · rename_i hgs
      obtain ⟨np, Fn⟩ := hF g hgs
      obtain ⟨fd, ps, hps, ok, hb⟩ := Fn.ok
      obtain ⟨v, hσ, r⟩ := S.fz i _ (get_some hg (by intro z; cases z))
      cases r
      refine wpAny_Call_Name_kw (thn ((pe_var (pos := p) hN hv hdb hcd).run pins s σ H (fun v H1 => v = .ref (He.ga X.K g) ∧ H1 = H) I ⟨.ref (He.ga X.K g), hσ, rfl, rfl⟩) fun u s1 ⟨v, H1, I1, r1, q1⟩ => ?_)
      obtain ⟨rfl, rfl⟩ := q1
      cases r1
      refine PySem.W.callWith_K (h₀ := X.base) I.ok.mod.kin Fn.kp (thn (ha.run pos pins s1 σ _ (fun vs H2 => spF X.K (c0 cn) false np (C g) (vs ++ []) H2 Q (WE W σ)) I1 ?_) fun us s2 ⟨vs, H2, I2, r, q⟩ => ⟨I2.kIn, ?_⟩) he hpl
      · exact tA.seq S q fun ds ρ1 vs F1 H1 s1 S1 r1 q1 => call_ok (P := fun _ _ => True) S1 r1 (fun xs ds h => Fn.ar xs ds h) (q1.imp (fun r ρ2 h v F2 H2 s2 S2 r2 => h v F2 H2 (s1.trans s2) S2 r2) fun _ h => h)
      · exact run_fnSD ok hr hb .nil (L2N.passAt tk σ) I2 r q
    · exact q.elim
  · exact q.elim
end
end MP
namespace MPH
open PySem PySem.Spec PyProof.Rows HT
section
variable {prog : Program} {w : World} {A : Around} {E : Value → Shared → Prop} {s : Shared}
theorem sliceApplied_rev {sl : Addr} {vs : Value} {n : Nat} {Q : Int × Int × Nat → Shared → Prop} (hs : s.heap.IsSliceOf sl .none .none vs) (ps : IsPart vs (some (-1)))
    (h : Q ((n : Int) - 1, -1, n) s) : wpAny (model prog w) A (Builtin.Slice.sliceApplied (.ref sl) (pure (n : Int))) Q E s := by
  obtain ⟨os, hos, hcs, hds⟩ := id hs
  unfold Builtin.Slice.sliceApplied Builtin.Slice.sliceFields
  refine wpAny_bind (wpAny_bind (wpAny_field hos hds (x := .none) rfl (wpAny_bind (wpAny_field hos hds (x := .none) rfl (wpAny_bind (wpAny_field hos hds (x := vs) rfl (wpAny_pure ?_)))))))
  refine wpAny_bind (slicePart_ ps ?_)
  show wpAny _ _ (if ((-1 : Int) == 0) = true then _ else _) _ _ s
  rw [if_neg (by decide)]
  refine wpAny_bind (slicePart_none (wpAny_bind (slicePart_none (wpAny_bind (wpAny_pure ?_)))))
  show wpAny _ _ (match Builtin.Slice.sliceAdjust none none (-1) (n : Int) with | (lo, hi) => pure (lo, (-1 : Int), Builtin.Slice.slicePlaces lo hi (-1))) _ _ s
  have e1 : Builtin.Slice.sliceAdjust none none (-1) (n : Int) = ((n : Int) - 1, -1) := rfl
  rw [e1]
  show wpAny _ _ (pure ((n : Int) - 1, (-1 : Int), Builtin.Slice.slicePlaces ((n : Int) - 1) (-1) (-1))) _ _ s
  have e2 : Builtin.Slice.slicePlaces ((n : Int) - 1) (-1) (-1) = n := by
    unfold Builtin.Slice.slicePlaces
    have h1 : ¬ ((-1 : Int) > 0) := by omega
    simp only [h1, if_false]
    split
    · simp only [Int.neg_neg, Int.ediv_one]; omega
    · omega
  rw [e2]
  exact wpAny_pure h
theorem fm_some {α β : Type} {f : α → Option β} {g : α → β} : ∀ {l : List α}, (∀ a ∈ l, f a = some (g a)) → l.filterMap f = l.map g
  | [], _ => rfl
  | a :: r, h => by rw [List.filterMap_cons, h a (by simp), fm_some (fun b hb => h b (by simp [hb]))]; rfl
theorem pick_rev (xs : Array Value) : ((List.range xs.size).filterMap fun (m : Nat) => xs[(((xs.size : Int) - 1) + (m : Int) * (-1)).toNat]?).toArray = xs.toList.reverse.toArray := by
  congr 1
  have e : ((List.range xs.size).filterMap fun (m : Nat) => xs[(((xs.size : Int) - 1) + (m : Int) * (-1)).toNat]?) = (List.range xs.size).map fun m => (xs.toList.reverse[m]?).getD .none := by
    refine fm_some fun m hm => ?_
    have hm : m < xs.size := List.mem_range.mp hm
    have e1 : (((xs.size : Int) - 1) + (m : Int) * (-1)).toNat = xs.size - 1 - m := by omega
    rw [e1]
    have h2 : xs.size - 1 - m < xs.size := by omega
    rw [List.getElem?_reverse (by simpa using hm)]
    simp [h2]
  rw [e]
  apply List.ext_getElem?
  intro i
  by_cases hi : i < xs.size
  · rw [List.getElem?_map, List.getElem?_range hi]
    have h3 : i < xs.toList.reverse.length := by simpa using hi
    rw [List.getElem?_eq_getElem h3]
    simp [List.getElem?_eq_getElem h3]
  · rw [List.getElem?_eq_none (by simp; omega), List.getElem?_eq_none (by simp; omega)]
theorem getItem_tuple_rev {t sl : Addr} {items : Array Value} {vs : Value} {Q : Value → Shared → Prop} (ht : IsTup s.heap t items) (hs : s.heap.IsSliceOf sl .none .none vs) (ps : IsPart vs (some (-1)))
    (h : Q (.ref s.heap.objs.size) { s with heap := s.heap.push { cls := .type "tuple", data := .seq items.toList.reverse.toArray } })
    (hsz : items.size ≤ sizeLine) : wpAny (model prog w) A (getItem (.ref t) (.ref sl)) Q E s := by
  have htake : sizeOk (.seq items.toList.reverse.toArray) := by
    show items.toList.reverse.toArray.size ≤ sizeLine
    rw [List.size_toArray, List.length_reverse, Array.length_toList]
    exact hsz
  obtain ⟨os, hos, hcs, hds⟩ := id hs
  have hTs : s.TypeIs (.ref sl) "slice" := ⟨os, hos, hcs⟩
  unfold getItem
  try with_reducible refine wpAny_holding ?_
  first | refine wpAny_bind (wpAny_pure ?_) | skip
  refine wpAny_bind (wpAny_sequenceKey ht.typeIs (by decide) ?_)
  refine wpAny_bind (wpAny_callSpecial?_slot (name := Str.ofString "__getitem__") ht.typeIs PyProof.Rows.slot_tuple_getitem
    (wpAny_call_entry PyProof.Rows.slot_tuple_getitem ht.typeIs entry_tuple_getitem ?_ (args_tuple_getitem _ _)))
  show wpAny _ _ (Builtin.Tuple.tupleItemsOf (.ref t) >>= _) _ _ s
  refine wpAny_bind (tupleItemsOf_ ht ?_)
  refine wpAny_bind (wpAny_typeOf hTs ?_)
  rw [if_pos (by decide)]
  refine wpAny_bind (sliceApplied_rev hs ps ?_)
  have hno : ¬ ((((items.size : Int) - 1) == 0 && (-1 : Int) == 1 && items.size == items.size) = true) := by
    intro q
    rw [Bool.and_eq_true, Bool.and_eq_true] at q
    exact absurd q.1.2 (by decide)
  show wpAny _ _ (if (((items.size : Int) - 1) == 0 && (-1 : Int) == 1 && items.size == items.size) = true then _ else _) _ _ s
  rw [if_neg hno, pick_rev]
  first
    | exact wpAny_bind (m := Builtin.Tuple.tupleExact _) (wpAny_newObj_type (wpAny_pure ⟨_, rfl, wpAny_pure h⟩) htake)
    | exact wpAny_bind (m := Builtin.Tuple.tupleExact _) (wpAny_newObj_type (wpAny_bind (wpAny_pure (wpAny_pure ⟨_, rfl, wpAny_pure h⟩))) htake)
    | exact wpAny_bind (wpAny_bind (m := Builtin.Tuple.tupleExact _) (wpAny_newObj_type (wpAny_pure (wpAny_pure ⟨_, rfl, wpAny_pure h⟩)) htake))
    | exact wpAny_bind (wpAny_bind (m := Builtin.Tuple.tupleExact _) (wpAny_newObj_type (wpAny_pure ⟨_, rfl, wpAny_pure h⟩) htake))
end
end MPH
namespace MP
open PySem PySem.Spec PyProof.Rows L2
/-- xs[::-1] -/
def tRevA (K : PySem.W.Frag) (te : TE) : TE := fun σ H Q => te σ H fun x H1 => (∃ a xs, x = .ref a ∧ SqL K H1 a xs ∧ ∀ p, H1 p = none → Q (.ref p) (upd H1 p (.lst xs.reverse))) ∨ ∃ a xs, x = .ref a ∧ SqT K H1 a xs ∧ ∀ p, H1 p = none → Q (.ref p) (upd H1 p (.tup xs.reverse))
section
variable {X : Cx} {cn : Program × World × Oa} {W : WX} {e : Expr} {f : En → Out (R × En)}
theorem pe_revA {te : TE} {k : Nat} {p1 p2 p3 pos : Pos} (he : PE X e te) : PE X (.Subscript e (.Slice none none (some (.UnaryOp .USub (.Constant (.int 1) k p1) p2)) p3) pos) (tRevA X.K te) := by
  refine ⟨fun pins s σ H Q I h => ?_⟩
  refine Subscript_ (thn (he.run pins s σ H _ I h) fun v s1 ⟨x, H1, I1, r1, q1⟩ => ?_)
  have hst : PO X (some (.UnaryOp .USub (.Constant (.int 1) k p1) p2)) (tPart (tUn (rU fun i => .int (-i)) (tC (.int 1)))) := po_some (pe_un un_neg pe_int)
  refine wpAny_Slice (thn (po_none.run pins s1 σ H1 (fun o H2 => o = none ∧ H2 = H1) I1 ⟨rfl, rfl⟩) fun vl s2 ⟨l, H2, I2, pl, el, e2⟩ => ?_)
  subst el e2
  refine thn (po_none.run pins s2 σ H2 (fun o H3 => o = none ∧ H3 = H2) I2 ⟨rfl, rfl⟩) fun vu s3 ⟨u, H3, I3, pu, eu, e3⟩ => ?_
  subst eu e3
  refine thn (hst.run pins s3 σ H3 (fun o H4 => o = some (-1) ∧ H4 = H3) I3 ⟨1, rfl, -1, rfl, rfl, rfl⟩) fun vs s4 ⟨o, H4, I4, ps, eo, e4⟩ => ?_
  subst eo e4
  have I5 : Inv X pins σ H4 { s4 with heap := s4.heap.push { cls := .type "slice", data := .fields #[vl, vu, vs] } } := I4.kept (t' := s4.toks) fun b ob q => Heap.get?_push_of_some _ q
  rcases q1 with q1 | q1
  · obtain ⟨a, xs, ex, hx, q⟩ := q1
    subst ex
    cases r1
    obtain ⟨its, r, ht, hz⟩ := I5.list hx
    have hlen := r.length
    show wpAny (model X.prog X.w) X.A (subscriptTail e (.Slice none none (some (.UnaryOp .USub (.Constant (.int 1) k p1) p2)) p3) (.ref a) (.ref s4.heap.objs.size)) (EP X pins σ Q) X.xe { s4 with heap := s4.heap.push { cls := .type "slice", data := .fields #[vl, vu, vs] } }
    refine tail_any (ops := [.ref a, .ref s4.heap.objs.size]) ht.isList.typeIs (PySem.slot_list_getitem.lookup) ?_ (by with_unfolding_all rfl)
    refine wpAny_getItem_list_slice ht.isList (Heap.IsSliceOf.new _ vl vu vs) pl pu ps (by decide) ?_ (by rw [List.size_toArray]; omega)
    rw [PySem.W.krv_pick]
    refine ⟨.ref _, _, I5.laid (t' := s4.toks) (o := .lst xs.reverse) (fun b ob q => Heap.get?_push_of_some _ q) (Nat.le_refl _) ?_, rfl, q _ (I5.hok.fresh (Nat.le_refl _))⟩
    exact ⟨by rw [List.length_reverse]; exact hz, _, 0, r.reverse, Heap.get?_push_size _ rfl⟩
  · obtain ⟨a, xs, ex, hx, q⟩ := q1
    subst ex
    cases r1
    cases pl
    cases pu
    obtain ⟨its, r, ht, hz⟩ := I5.tuple hx
    have hlen := r.length
    show wpAny (model X.prog X.w) X.A (subscriptTail e (.Slice none none (some (.UnaryOp .USub (.Constant (.int 1) k p1) p2)) p3) (.ref a) (.ref s4.heap.objs.size)) (EP X pins σ Q) X.xe { s4 with heap := s4.heap.push { cls := .type "slice", data := .fields #[.none, .none, vs] } }
    refine tail_any (ops := [.ref a, .ref s4.heap.objs.size]) ht.typeIs (PyProof.Rows.slot_tuple_getitem.lookup) ?_ (by with_unfolding_all rfl)
    refine MPH.getItem_tuple_rev ht (Heap.IsSliceOf.new _ .none .none vs) ps ?_ (by rw [List.size_toArray]; omega)
    refine ⟨.ref _, _, I5.laid (t' := s4.toks) (o := .tup xs.reverse) (fun b ob q => Heap.get?_push_of_some _ q) (Nat.le_refl _) ?_, rfl, q _ (I5.hok.fresh (Nat.le_refl _))⟩
    exact ⟨by rw [List.length_reverse]; exact hz, _, r.reverse, IsTup.new _ _⟩
theorem s_rev {k : Nat} {p1 p2 p3 pos : Pos} (he : PE X e (tE X.K cn W f)) : PE X (.Subscript e (.Slice none none (some (.UnaryOp .USub (.Constant (.int 1) k p1) p2)) p3) pos)
    (tE X.K cn W fun env => (f env).bind fun (x, env) => match x.d with | .lst ds => .ok (.o ds.reverse, env) | .tup ds => .ok (.v (.tup ds.reverse), env) | _ => .bad) := by
  refine PE.weak (pe_revA he) fun σ H Q ⟨Z, F, ρ, S, q⟩ => tE.seq S q fun r ρ1 v F1 H1 s1 S1 rx q1 => ?_
  dsimp only at q1
  split at q1
  · rename_i ds hds
    rw [hds] at rx
    obtain ⟨a, xs, rfl, h1, h2⟩ := rx.inv_lst
    exact .inl ⟨a, xs, rfl, SqL.of (S1.fh _ _ h1), fun p hp => q1 _ F1 _ s1 (S1.new hp _) (RR.new_lst S1 hp h2.reverse)⟩
  · rename_i ds hds
    rw [hds] at rx
    obtain ⟨a, xs, rfl, h1, h2⟩ := rx.inv_tup
    exact .inr ⟨a, xs, rfl, SqT.sub S1.fh h1, fun p hp => q1 _ _ _ (s1.trans (S1.subT hp _)) (S1.newT hp _) (Rp.new_tup S1 hp h2.reverse)⟩
  · exact q1.elim
end
end MP

end
section
set_option linter.all false
set_option Elab.async false
set_option maxRecDepth 100000
set_option maxHeartbeats 4000000
/-! The reading of a text is right. -/
namespace MP
open PySem PySem.Spec PyProof.Rows L2

structure Glb (g : Gs) (X : Cx) (C : CallF) (k : Nat) (oa : Oa) : Prop where
  con : ∀ x d, g.con.lookup x = some d → ∃ v u, X.mg x = some u ∧ RelV v u ∧ ∀ F : Hp, Rp X.K F v d
  tabs : ∀ x kvs, g.tabs.lookup x = some kvs → X.mg x = some (.ref (He.ga X.K x)) ∧ TabOk X.K X.w (He.ga X.K x) kvs
  free : ∀ x, g.free.contains x = true → X.mg x = none
  fns : ∀ x own, g.fns.lookup x = some own → ∃ np, Fnd X (X.prog, X.w, oa) C k x own np
  err : ∀ ef nf, g.err.lookup ef = some nf → ErrOk X C oa ef nf
  exs : ∀ x, g.exs.contains x = true → PySem.W.excIn X.K (He.ga X.K x) He.veBase "ValueError.__new__" = true ∧ X.mg x = some (.ref (He.ga X.K x)) ∧ PySem.W.keepIn X.K (.ref (He.ga X.K x)) = true ∧ Raises X (.ref (He.ga X.K x))
structure Good (g : Gs) (X : Cx) (C : CallF) (k : Nat) (W : WX) (oa : Oa) (sc : Scope) (sto : Str → Bool) : Prop where
  glb : Glb g X C k oa
  hN : X.N = g.N
  nd : g.N.Nodup
  sc : X.env.scope = sc
  calm : X.calm = true
  tk : L2N.Takes X W
  fn : ∀ x, sto x = true → X.fn x = true ∨ X.env.scope.names.lookup x = some .local
  units : X.A.units + 66 < cLine
  room : Room k X.A
  lam : (g.lam && hasOwn X.env.scope) = true → LamOk X k oa
abbrev Snd (oa : Oa) (X : Cx) (C : CallF) (W : WX) (rec : Expr → Option ME) : Prop := ∀ e me, rec e = some me → PE X e (tE X.K (X.prog, X.w, oa) W (ev C me))

theorem star_cons {e : Expr} {es : List Expr} {env : Env} (h : starB e = false) : starEach (e :: es) env = (false, eval e env) :: starEach es env := by
  cases e <;> first | rfl | cases h
theorem star_plain {env : Env} {pos : Pos} : ∀ {es : List Expr}, es.any starB = false → (backTo pos (starEach es env)).any (·.1) = false
  | [], _ => rfl
  | e :: es, h => by
    rw [List.any_cons, Bool.or_eq_false_iff] at h
    rw [star_cons h.1]
    show (false || (backTo pos (starEach es env)).any (·.1)) = false
    rw [star_plain h.2]; rfl
theorem idx_at {x : Str} : ∀ {l : List Str} {n i : Nat}, idx x l n = some i → ∃ j, i = n + j ∧ l[j]? = some x
  | [], _, _, h => by cases h
  | y :: r, n, i, h => by
    unfold idx at h
    split at h
    · rename_i e
      cases h
      exact ⟨0, rfl, by simp [e]⟩
    · obtain ⟨j, e1, e2⟩ := idx_at h
      exact ⟨j + 1, by omega, by simpa using e2⟩
theorem okName_of {x : Str} (h : okName x = true) : (x == ("__debug__" : Str)) = false ∧ (x == ("__classdict__" : Str)) = false ∧ x ≠ ("__name__" : Str) := by
  unfold okName at h
  simp only [Bool.and_eq_true, Bool.not_eq_true'] at h
  refine ⟨h.1.1, h.1.2, fun e => ?_⟩
  rw [e] at h
  exact absurd h.2 (by decide)
section
variable {g : Gs} {X : Cx} {C : CallF} {k : Nat} {W : WX} {sc : Scope} {sto : Str → Bool} {oa : Oa} {pos p : Pos}
abbrev cnX (X : Cx) (oa : Oa) : Program × World × Oa := (X.prog, X.w, oa)
theorem slot_ok (G : Good g X C k W oa sc sto) {x : Str} {i : Nat} (h : slot g sc x = some i) : X.N[i]? = some x ∧ Vis X.env.scope x ∧ okName x = true := by
  unfold slot at h
  split at h
  · rename_i hc
    rw [Bool.and_eq_true] at hc
    obtain ⟨j, e1, e2⟩ := idx_at h
    refine ⟨by rw [G.hN, e1, Nat.zero_add]; exact e2, ?_, hc.2⟩
    have hl := hc.1
    unfold isLoc at hl
    rw [G.sc]
    split at hl
    · rename_i e; exact .inl e
    · rename_i e; exact .inr (.inl e)
    · rename_i e; exact .inr (.inr e)
    · cases hl
  · cases h
theorem slot_var (G : Good g X C k W oa sc sto) {x : Str} {i : Nat} (h : slot g sc x = some i) : PE X (.Name x pos) (tVar i) := by
  obtain ⟨h1, h2, h3⟩ := slot_ok G h
  obtain ⟨n1, n2, _⟩ := okName_of h3
  exact pe_var h1 h2 n1 n2
theorem nameSlot_var (G : Good g X C k W oa sc sto) {e : Expr} {i : Nat} (h : nameSlot g sc e = some i) : PE X e (tVar i) ∧ starB e = false := by
  unfold nameSlot at h
  split at h
  · exact ⟨slot_var G h, rfl⟩
  · cases h
theorem gl_ok (G : Good g X C k W oa sc sto) {x : Str} (h : gl sc x = true) : Gl X x ∧ okName x = true := by
  unfold gl at h
  rw [Bool.and_eq_true] at h
  refine ⟨?_, h.2⟩
  have hg := h.1
  unfold isGlob at hg
  split at hg
  · rename_i e
    show X.env.scope.names.lookup x = _
    rw [G.sc]; exact e
  · cases hg
theorem blt_ok (G : Good g X C k W oa sc sto) {x : Str} {y : String} (h : blt g sc x y = true) : Gl X x ∧ okName x = true ∧ X.mg x = none ∧ x = PySem.Str.ofString y := by
  unfold blt at h
  rw [Bool.and_eq_true, Bool.and_eq_true, decide_eq_true_eq] at h
  obtain ⟨a, b⟩ := gl_ok G h.1.1
  exact ⟨a, b, G.glb.free x h.1.2, h.2⟩
theorem tabOf_ok (G : Good g X C k W oa sc sto) {e : Expr} {kvs : List (Str × Int)} (h : tabOf g sc e = some kvs) : ∃ d, PE X e (tC (.ref d)) ∧ TabOk X.K X.w d kvs ∧ starB e = false ∧ callB e = false := by
  unfold tabOf at h
  split at h
  · rename_i x _
    split at h
    · rename_i hg
      obtain ⟨a, b⟩ := gl_ok G hg
      obtain ⟨c, d⟩ := G.glb.tabs x kvs h
      exact ⟨_, pe_glob a c rfl (okName_of b).1, d, rfl, rfl⟩
    · cases h
  · cases h
theorem snd_name (G : Good g X C k W oa sc sto) {x : Str} {me : ME} (h : cvName g sc x = some me) : PE X (.Name x pos) (tE X.K (cnX X oa) W (ev C me)) := by
  unfold cvName at h
  split at h
  · rename_i i hi
    cases h
    exact s_var (slot_var G hi)
  · split at h
    · rename_i hg
      obtain ⟨a, b⟩ := gl_ok G hg
      cases e : g.con.lookup x with
      | none =>
        rw [e] at h
        dsimp only at h
        split at h
        · rename_i hv
          rw [Bool.and_eq_true, decide_eq_true_eq] at hv
          cases h
          obtain ⟨np, Fn⟩ := G.glb.fns x false hv.2
          exact s_con (pe_glob a Fn.mg (show RelV (.ref (He.ga X.K x)) _ from rfl) (okName_of b).1) fun F => .fn x
        · cases h
      | some d =>
        rw [e] at h; cases h
        obtain ⟨v, u, h1, h2, h3⟩ := G.glb.con x d e
        exact s_con (pe_glob a h1 h2 (okName_of b).1) h3
    · cases h
theorem snd_const {c : PySem.Const} {n : Nat} {me : ME} (h : cvConst c = some me) : PE X (.Constant c n pos) (tE X.K (cnX X oa) W (ev C me)) := by
  unfold cvConst at h
  split at h <;> cases h
  · exact s_con pe_non fun _ => .non
  · exact s_con pe_bl fun _ => .bl _
  · exact s_con pe_int fun _ => .int _
  · exact s_con pe_str fun _ => .str _
theorem snd_args (G : Good g X C k W oa sc sto) {rec : Expr → Option ME} (hr : Snd oa X C W rec) : ∀ {es : List Expr} {ms : MEs}, mapE rec es = some ms → es.any starB = false → PA X es (tA X.K (cnX X oa) W (evs C ms))
  | [], ms, h, _ => by cases h; exact s_nil
  | e :: es, ms, h, hs => by
    rw [List.any_cons, Bool.or_eq_false_iff] at hs
    unfold mapE at h
    split at h
    · rename_i a b h1 h2
      cases h
      exact s_cons (hr e a h1) (snd_args G hr h2 hs.2) (star_cons hs.1)
    · cases h
theorem mapE_len {rec : Expr → Option ME} : ∀ {es : List Expr} {ms : MEs}, mapE rec es = some ms → ∀ ρ ds ρ', evs C ms ρ = .ok (ds, ρ') → ds.length = es.length
  | [], ms, h, ρ, ds, ρ', e => by cases h; cases e; rfl
  | x :: es, ms, h, ρ, ds, ρ', e => by
    unfold mapE at h
    split at h
    · rename_i a b h1 h2
      cases h
      obtain ⟨⟨r, ρ1⟩, e1, e2⟩ := bind_ok e
      obtain ⟨⟨rs, ρ2⟩, e3, e4⟩ := bind_ok e2
      cases e4
      rw [List.length_cons, List.length_cons, mapE_len h2 _ _ _ e3]
    · cases h
theorem mapR_len {rec : Expr → Option ME} : ∀ {es : List Expr} {ms : MEs}, mapE rec es = some ms → ∀ ρ ds ρ', evR C ms ρ = .ok (ds, ρ') → ds.length = es.length
  | [], ms, h, ρ, ds, ρ', e => by cases h; cases e; rfl
  | x :: es, ms, h, ρ, ds, ρ', e => by
    unfold mapE at h
    split at h
    · rename_i a b h1 h2
      cases h
      obtain ⟨⟨r, ρ1⟩, e1, e2⟩ := bind_ok e
      obtain ⟨⟨rs, ρ2⟩, e3, e4⟩ := bind_ok e2
      cases e4
      rw [List.length_cons, List.length_cons, mapR_len h2 _ _ _ e3]
    · cases h
theorem snd_argsR (G : Good g X C k W oa sc sto) {rec : Expr → Option ME} (hr : Snd oa X C W rec) : ∀ {es : List Expr} {ms : MEs}, mapE rec es = some ms → es.any starB = false → PA X es (tAR X.K (cnX X oa) W (evR C ms))
  | [], ms, h, _ => by cases h; exact s_rnil
  | e :: es, ms, h, hs => by
    rw [List.any_cons, Bool.or_eq_false_iff] at hs
    unfold mapE at h
    split at h
    · rename_i a b h1 h2
      cases h
      exact s_rcons (hr e a h1) (snd_argsR G hr h2 hs.2) (star_cons hs.1)
    · cases h
theorem cOf_coOf (o : CmpOp) : cOf (coOf o) = o := by cases o <;> rfl
theorem behind_of {o : CmpOp} {b : Expr} (h : setB b = false) : behindInMarks o b = false := by cases b <;> first | rfl | cases h
theorem lt1 {n : Nat} (h : n + 66 < cLine) : n + 1 < cLine := by omega
/-- x in table -/
theorem s_kin {a b : Expr} {f : En → Out (R × En)} {d : Addr} {kvs : List (Str × Int)} {neg : Bool} (hT : TabOk X.K X.w d kvs) (ha : PE X a (tE X.K (cnX X oa) W f)) (hb : PE X b (tC (.ref d))) (hm : behindInMarks (if neg then CmpOp.NotIn else .In) b = false) :
    PE X (.Compare a [if neg then CmpOp.NotIn else .In] [b] pos) (tE X.K (cnX X oa) W fun env => (f env).bind fun (x, env) => (match x.d with
        | .str z => .ok (.v (.bl (if neg then !(look kvs z).isSome else (look kvs z).isSome)), env)
        | _ => .bad)) := by
  cases neg with
  | false =>
    refine PE.weak (pe_cmpR (op_kin hT) ha hb hm) fun σ H Q ⟨Z, F, ρ, S, q⟩ => tE.seq S q fun r ρ1 v F1 H1 s1 S1 rx q1 => ?_
    dsimp only at q1
    generalize r.d = dd at rx q1
    cases rx <;> first | exact q1.elim | skip
    exact ⟨_, rfl, rfl, q1 _ F1 H1 s1 S1 (.bl _)⟩
  | true =>
    refine PE.weak (pe_cmpR (op_knotin hT) ha hb hm) fun σ H Q ⟨Z, F, ρ, S, q⟩ => tE.seq S q fun r ρ1 v F1 H1 s1 S1 rx q1 => ?_
    dsimp only at q1
    generalize r.d = dd at rx q1
    cases rx <;> first | exact q1.elim | skip
    exact ⟨_, rfl, rfl, q1 _ F1 H1 s1 S1 (.bl _)⟩
theorem s_kinT {a b : Expr} {f : En → Out (R × En)} {d : Addr} {kvs : List (Str × Int)} {neg : Bool} (hT : TabOk X.K X.w d kvs) (ha : PE X a (tE X.K (cnX X oa) W f)) (hb : PE X b (tC (.ref d))) (hm : behindInMarks (if neg then CmpOp.NotIn else .In) b = false) :
    PT X (.Compare a [if neg then CmpOp.NotIn else .In] [b] pos) (tT X.K (cnX X oa) W fun env => ((f env).bind fun (x, env) => (match x.d with
        | .str z => .ok (R.v (.bl (if neg then !(look kvs z).isSome else (look kvs z).isSome)), env)
        | _ => .bad)).bind fun (x, env) => (truth x.d).bind fun b => .ok (b, env)) := by
  cases neg with
  | false =>
    refine PT.weak (pt_cmpR (op_kin hT) ha hb hm) fun σ H Q ⟨Z, F, ρ, S, q⟩ => ?_
    have q : Post ((f ρ).bind fun (x, env) => ((match x.d with
        | .str z => .ok (R.v (.bl (look kvs z).isSome), env)
        | _ => .bad : Out (R × En))).bind fun (x, env) => (truth x.d).bind fun b => .ok (b, env)) (fun b ρ' => ∀ (F' H' : Hp), Sub F F' → Sok X.K (cnX X oa) Z F' H' σ ρ' → Q b H') (EE X.K (cnX X oa) Z F W σ) := by
      cases e : f ρ with
      | ok _ => dsimp only at q; rw [e] at q; exact q
      | err _ => dsimp only at q; rw [e] at q; exact q
      | bad => dsimp only at q; rw [e] at q; exact q
    refine tE.seq S q fun r ρ1 v F1 H1 s1 S1 rx q1 => ?_
    dsimp only at q1
    generalize r.d = dd at rx q1
    cases rx <;> first | exact q1.elim | skip
    exact ⟨_, rfl, rfl, _, rfl, q1 F1 H1 s1 S1⟩
  | true =>
    refine PT.weak (pt_cmpR (op_knotin hT) ha hb hm) fun σ H Q ⟨Z, F, ρ, S, q⟩ => ?_
    have q : Post ((f ρ).bind fun (x, env) => ((match x.d with
        | .str z => .ok (R.v (.bl (!(look kvs z).isSome)), env)
        | _ => .bad : Out (R × En))).bind fun (x, env) => (truth x.d).bind fun b => .ok (b, env)) (fun b ρ' => ∀ (F' H' : Hp), Sub F F' → Sok X.K (cnX X oa) Z F' H' σ ρ' → Q b H') (EE X.K (cnX X oa) Z F W σ) := by
      cases e : f ρ with
      | ok _ => dsimp only at q; rw [e] at q; exact q
      | err _ => dsimp only at q; rw [e] at q; exact q
      | bad => dsimp only at q; rw [e] at q; exact q
    refine tE.seq S q fun r ρ1 v F1 H1 s1 S1 rx q1 => ?_
    dsimp only at q1
    generalize r.d = dd at rx q1
    cases rx <;> first | exact q1.elim | skip
    exact ⟨_, rfl, rfl, _, rfl, q1 F1 H1 s1 S1⟩
theorem snd_cmp (G : Good g X C k W oa sc sto) {rec : Expr → Option ME} (hr : Snd oa X C W rec) {a b : Expr} {op : CmpOp} {me : ME} (h : cvCmp g sc rec a op b = some me) :
    PE X (.Compare a [op] [b] pos) (tE X.K (cnX X oa) W (ev C me)) ∧ PT X (.Compare a [op] [b] pos) (tT X.K (cnX X oa) W (evt C (.v me))) := by
  unfold cvCmp at h
  split at h
  · cases h
  rename_i hs
  have hs : setB b = false := by simpa using hs
  split at h
  · rename_i kvs hk
    obtain ⟨d, h1, h2, _⟩ := tabOf_ok G hk
    cases op <;> first | (cases h; done) | skip
    · cases e : rec a with
      | none => rw [e] at h; cases h
      | some x => rw [e] at h; cases h; exact ⟨s_kin (neg := false) h2 (hr a x e) h1 (behind_of hs), s_kinT (neg := false) h2 (hr a x e) h1 (behind_of hs)⟩
    · cases e : rec a with
      | none => rw [e] at h; cases h
      | some x => rw [e] at h; cases h; exact ⟨s_kin (neg := true) h2 (hr a x e) h1 (behind_of hs), s_kinT (neg := true) h2 (hr a x e) h1 (behind_of hs)⟩
  · split at h
    · rename_i x y h1 h2
      cases h
      have A := s_cmp (cn := cnX X oa) (o := coOf op) (pos := pos) G.units (hr a x h1) (hr b y h2) (behind_of hs)
      have B := s_cmpT (cn := cnX X oa) (o := coOf op) (pos := pos) G.units (hr a x h1) (hr b y h2) (behind_of hs)
      rw [cOf_coOf] at A B
      exact ⟨A, B⟩
    · cases h
theorem snd_chain (G : Good g X C k W oa sc sto) {rec : Expr → Option ME} (hr : Snd oa X C W rec) {a b c : Expr} {op op' : CmpOp} {me : ME} (h : cvChain rec a op op' b c = some me) :
    PE X (.Compare a [op, op'] [b, c] pos) (tE X.K (cnX X oa) W (ev C me)) ∧ PT X (.Compare a [op, op'] [b, c] pos) (tT X.K (cnX X oa) W (evt C (.v me))) := by
  unfold cvChain at h
  split at h
  · cases h
  rename_i hs
  have hs : setB b = false ∧ setB c = false := by simpa using hs
  split at h
  · rename_i x y z h1 h2 h3
    cases h
    have m : lastMarks [cOf (coOf op), cOf (coOf op')] [b, c] = false := behind_of hs.2
    have A := s_chain (cn := cnX X oa) (o := coOf op) (o' := coOf op') (pos := pos) G.units (hr a x h1) (hr b y h2) (hr c z h3) m
    have B := s_chainT (cn := cnX X oa) (o := coOf op) (o' := coOf op') (pos := pos) G.units (hr a x h1) (hr b y h2) (hr c z h3) m
    rw [cOf_coOf, cOf_coOf] at A B
    exact ⟨A, B⟩
  · cases h
end
end MP

end
section
set_option linter.all false
set_option Elab.async false
set_option maxRecDepth 100000
set_option maxHeartbeats 4000000
/-! .. of expressions. -/
namespace MP
open PySem PySem.Spec PyProof.Rows L2
section
variable {g : Gs} {X : Cx} {C : CallF} {k : Nat} {W : WX} {sc : Scope} {sto : Str → Bool} {oa : Oa} {pos p : Pos}
theorem plainIx {b : Expr} (h : sliceB b = false) : PlainIx b := by intro o i; cases b <;> first | rfl | cases h
theorem noSl {b : Expr} (h : sliceB b = false) : NoSl b := by intro o i; cases b <;> first | rfl | cases h
/-- table[x] -/
theorem s_kix {a b : Expr} {f : En → Out (R × En)} {d : Addr} {kvs : List (Str × Int)} (hT : TabOk X.K X.w d kvs) (ha : PE X a (tC (.ref d))) (hb : PE X b (tE X.K (cnX X oa) W f)) (hs : PlainIx b) :
    PE X (.Subscript a b pos) (tE X.K (cnX X oa) W fun env => (f env).bind fun (x, env) => (match x.d with
        | .str z => (match look kvs z with | some n => .ok (.v (.int n), env) | none => .bad)
        | _ => .bad)) :=
  PE.weak (pe_ix (ix_kd hT) ha hb hs) fun σ H Q ⟨Z, F, ρ, S, q⟩ => tE.seq S q fun r ρ1 v F1 H1 s1 S1 rx q1 => by
    dsimp only at q1
    generalize r.d = dd at rx q1
    cases rx <;> first | exact q1.elim | skip
    rename_i z
    dsimp only at q1
    split at q1
    · rename_i n e
      exact ⟨z, n, rfl, rfl, e, q1 _ F1 H1 s1 S1 (.int n)⟩
    · exact q1.elim
theorem snd_subP (G : Good g X C k W oa sc sto) {rec : Expr → Option ME} (hr : Snd oa X C W rec) {a i : Expr} {me : ME} (hsl : sliceB i = false) (h : cvSubP g sc rec a i = some me) :
    PE X (.Subscript a i pos) (tE X.K (cnX X oa) W (ev C me)) := by
  unfold cvSubP at h
  split at h
  · rename_i s hs
    obtain ⟨hv, _⟩ := nameSlot_var G hs
    split at h
    · cases e : rec i with
      | none => rw [e] at h; cases h
      | some y => rw [e] at h; cases h; exact s_dix rfl (lt1 G.units) hv (hr i y e) (noSl hsl)
    · cases e : rec i with
      | none => rw [e] at h; cases h
      | some y => rw [e] at h; cases h; exact s_ixv (lt1 G.units) hv (hr i y e) (plainIx hsl)
  · rename_i kvs hn hk
    obtain ⟨d, h1, h2, _⟩ := tabOf_ok G hk
    cases e : rec i with
    | none => rw [e] at h; cases h
    | some y => rw [e] at h; cases h; exact s_kix h2 h1 (hr i y e) (plainIx hsl)
  · split at h
    · rename_i y z h1 h2
      cases h
      exact s_ix (lt1 G.units) (hr _ _ h1) (hr _ _ h2) (plainIx hsl)
    · cases h
theorem m1_ok {st : Expr} (h : m1 st = true) : ∃ k p1 p2, st = .UnaryOp .USub (.Constant (.int 1) k p1) p2 := by
  unfold m1 at h
  split at h
  · rename_i n k p1 p2
    have := of_decide_eq_true h
    subst this
    exact ⟨k, p1, p2, rfl⟩
  · cases h
theorem snd_sub (G : Good g X C k W oa sc sto) {rec : Expr → Option ME} {reco : Option Expr → Option MO} (hr : Snd oa X C W rec) (hro : ∀ o mo, reco o = some mo → PO X o (tO X.K (cnX X oa) W (evo C mo))) {a i : Expr} {me : ME} (h : cvSub g sc rec reco a i = some me) :
    PE X (.Subscript a i pos) (tE X.K (cnX X oa) W (ev C me)) := by
  cases i with
  | Slice lo hi st ps =>
    cases st with
    | none =>
      have h : (match rec a, reco lo, reco hi with
        | some x, some l, some h => some (.sl x l h)
        | _, _, _ => none) = some me := h
      split at h
      · rename_i x l hh h1 h2 h3
        cases h
        exact s_sl (hr _ _ h1) (hro _ _ h2) (hro _ _ h3)
      · cases h
    | some st =>
      have h2 : (if (lo.isNone && hi.isNone && m1 st) = true then (rec a).map ME.rev else none) = some me := h
      clear h
      split at h2
      · rename_i hc
        rw [Bool.and_eq_true, Bool.and_eq_true, Option.isNone_iff_eq_none, Option.isNone_iff_eq_none] at hc
        obtain ⟨⟨rfl, rfl⟩, hm⟩ := hc
        obtain ⟨k, p1, p2, rfl⟩ := m1_ok hm
        cases e : rec a with
        | none => rw [e] at h2; cases h2
        | some y => rw [e] at h2; cases h2; exact s_rev (hr a y e)
      · cases h2
  | _ => exact snd_subP G hr rfl h
theorem strL {x : Str} {y : String} (h : x = PySem.Str.ofString y) (hx : okName x = true) : x ≠ ("__name__" : Str) ∧ (x == ("__debug__" : Str)) = false := ⟨(okName_of hx).2.2, (okName_of hx).1⟩
theorem snd_bi1 (G : Good g X C k W oa sc sto) {x : Str} {b : BI} {a : Expr} {ms : MEs} (hg : Gl X x) (ok : okName x = true) (hm : X.mg x = none) (hb : bi1Of x = some b) (ha : PA X [a] (tA X.K (cnX X oa) W (evs C ms))) (hs : starB a = false) :
    PE X (.Call (.Name x p) [a] [] pos) (tE X.K (cnX X oa) W (ev C (.bi b ms))) := by
  have n1 := (okName_of ok).2.2
  have n2 := (okName_of ok).1
  have st := star_cons (env := X.env) (es := []) hs
  unfold bi1Of at hb
  split at hb
  · rename_i e; cases hb; subst e; exact s_callB .len call_len hg hm boot_len ha n1 n2 st rfl ok_len
  split at hb
  · rename_i e; cases hb; subst e; exact s_callB .abs call_abs hg hm boot_abs ha n1 n2 st rfl ok_abs
  split at hb
  · rename_i e; cases hb; subst e; exact s_callT .int call_int3 hg hm boot_int ha n1 n2 st rfl ok_int
  split at hb
  · rename_i e; cases hb; subst e; exact s_callT .bool call_bool1 hg hm boot_bool ha n1 n2 st rfl ok_bool
  split at hb
  · rename_i e; cases hb; subst e; exact s_callT .str call_str2 hg hm boot_str ha n1 n2 st rfl ok_str
  split at hb
  · rename_i e; cases hb; subst e; exact s_callT .list call_list_of hg hm boot_list ha n1 n2 st rfl ok_list
  split at hb
  · rename_i e; cases hb; subst e; exact s_callT .tuple call_tuple_of hg hm boot_tuple ha n1 n2 st rfl ok_tuple
  split at hb
  · rename_i e; cases hb; subst e; exact s_callB .sum (cr_sum G.calm) hg hm boot_sum ha n1 n2 st rfl ok_sum
  · cases hb
theorem snd_bi2 (G : Good g X C k W oa sc sto) {x : Str} {b : BI} {a c : Expr} {ms : MEs} (hg : Gl X x) (ok : okName x = true) (hm : X.mg x = none) (hb : bi2Of x = some b) (ha : PA X [a, c] (tA X.K (cnX X oa) W (evs C ms))) (hs : starB a = false) (hs2 : starB c = false) :
    PE X (.Call (.Name x p) [a, c] [] pos) (tE X.K (cnX X oa) W (ev C (.bi b ms))) := by
  have n1 := (okName_of ok).2.2
  have n2 := (okName_of ok).1
  have st := star_cons (env := X.env) (es := [c]) hs
  have st2 := star_plain (env := X.env) (pos := pos) (es := [c]) (by rw [List.any_cons, hs2]; rfl)
  unfold bi2Of at hb
  split at hb
  · rename_i e; cases hb; subst e; exact s_callB .max2 (call_max2 G.calm) hg hm boot_max ha n1 n2 st st2 ok_max
  split at hb
  · rename_i e; cases hb; subst e; exact s_callB .min2 (call_min2 G.calm) hg hm boot_min ha n1 n2 st st2 ok_min
  · cases hb
theorem pe_tyN (G : Good g X C k W oa sc sto) {b : Expr} {t : Ty} (h : tyArg g sc b = some t) : ∃ y py, b = .Name y py ∧ PE X b (tC (.ty (tyN t))) := by
  unfold tyArg at h
  split at h
  · rename_i y py
    split at h
    · rename_i hc
      rw [Bool.and_eq_true] at hc
      obtain ⟨a, ok⟩ := gl_ok G hc.1
      have hm := G.glb.free y hc.2
      have n1 := (okName_of ok).2.2
      have n2 := (okName_of ok).1
      refine ⟨y, py, rfl, ?_⟩
      unfold tyOf at h
      split at h
      · rename_i e; cases h; subst e; exact pe_bltn a hm boot_int rfl n1 n2
      split at h
      · rename_i e; cases h; subst e; exact pe_bltn a hm boot_bool rfl n1 n2
      split at h
      · rename_i e; cases h; subst e; exact pe_bltn a hm boot_str rfl n1 n2
      split at h
      · rename_i e; cases h; subst e; exact pe_bltn a hm boot_tuple rfl n1 n2
      split at h
      · rename_i e; cases h; subst e; exact pe_bltn a hm boot_list rfl n1 n2
      · cases h
    · cases h
  · cases h
theorem snd_blt (G : Good g X C k W oa sc sto) {rec : Expr → Option ME} (hr : Snd oa X C W rec) {x : Str} {es : List Expr} {me : ME} (hg : Gl X x) (ok : okName x = true) (hm : X.mg x = none) (hst : es.any starB = false) (h : cvBlt g sc rec x es = some me) :
    PE X (.Call (.Name x p) es [] pos) (tE X.K (cnX X oa) W (ev C me)) := by
  have n1 := (okName_of ok).2.2
  have n2 := (okName_of ok).1
  unfold cvBlt at h
  split at h
  · rename_i a
    have hs : starB a = false := by simpa using hst
    have st := star_cons (env := X.env) (es := []) hs
    split at h
    · rename_i i hi
      obtain ⟨hv, _⟩ := nameSlot_var G hi
      split at h
      · rename_i e
        have e := of_decide_eq_true e
        cases h; subst e
        exact s_lenv hg hm boot_len n1 n2 hv st
      · split at h
        · rename_i e
          rw [Bool.and_eq_true, decide_eq_true_eq] at e
          cases h; obtain ⟨e, _⟩ := e; subst e
          exact s_dlist rfl G.calm hg hm boot_list n1 n2 hv st
        · cases eb : bi1Of x with
          | none => rw [eb] at h; cases h
          | some b =>
            rw [eb] at h; cases h
            exact snd_bi1 G hg ok hm eb (s_cons (s_var hv) s_nil st) hs
    · rename_i b hn hset
      split at h
      · rename_i e
        have e := of_decide_eq_true e
        subst e
        unfold setArg at hset
        split at hset
        · rename_i y py b0 q
          split at hset
          · rename_i hc
            cases hset
            rw [Bool.and_eq_true] at hc
            obtain ⟨g2, ok2, m2, e2⟩ := blt_ok G hc.1
            subst e2
            have hs0 : starB b = false := by simpa using hc.2
            cases e : rec b with
            | none => rw [e] at h; cases h
            | some y => 
              rw [e] at h; cases h
              have := s_sset (cn := cnX X oa) (p := p) (pos := pos) (p2 := py) (q := q) G.calm hg hm g2 m2 (hr b y e) (star_cons hs0) (star_cons rfl)
              exact PE.weak this fun σ H Q ⟨Z, F, ρ, S, q⟩ => ⟨Z, F, ρ, S, by
                have q : Post ((evs C (.cons y .nil) ρ).bind fun (ds, env) => (bi1 .sset ds).bind fun r => .ok (r, env)) (fun r ρ' => ∀ v F' H', Sub F F' → Sok X.K (cnX X oa) Z F' H' σ ρ' → RR X.K Z F' H' σ ρ' v r → Q v H') (EE X.K (cnX X oa) Z F W σ) := q
                unfold evs evs at q
                show Post ((ev C y ρ).bind fun (x, env) => (bsset x.d).bind fun r => .ok (r, env)) (fun r ρ' => ∀ v F' H', Sub F F' → Sok X.K (cnX X oa) Z F' H' σ ρ' → RR X.K Z F' H' σ ρ' v r → Q v H') (EE X.K (cnX X oa) Z F W σ)
                cases e5 : ev C y ρ with
                | ok pr => rw [e5] at q; exact q
                | err _ => rw [e5] at q; exact q
                | bad => rw [e5] at q; exact q⟩
          · cases hset
        · cases hset
      · cases h
    · split at h
      · rename_i b y eb ey
        cases h
        exact snd_bi1 G hg ok hm eb (s_cons (hr a y ey) s_nil st) hs
      · cases h
  · rename_i a b
    have hs : starB a = false ∧ starB b = false := by simpa using hst
    split at h
    · rename_i e
      have e := of_decide_eq_true e
      subst e
      split at h
      · rename_i t y ht hy
        cases h
        obtain ⟨yn, py, rfl, pt⟩ := pe_tyN G ht
        exact s_isi1 hg hm boot_isinstance n1 n2 (hr a y hy) pt (by rw [star_cons hs.1]; rfl)
      · cases h
    · split at h
      · rename_i b2 y z eb ey ez
        cases h
        exact snd_bi2 G hg ok hm eb (s_cons (hr a y ey) (s_cons (hr b z ez) s_nil (star_cons hs.2)) (star_cons hs.1)) hs.1 hs.2
      · cases h
  · cases h
theorem snd_callN (G : Good g X C k W oa sc sto) {rec : Expr → Option ME} (hr : Snd oa X C W rec) {x : Str} {es : List Expr} {me : ME} (h : cvCallN g sc rec x es = some me) :
    PE X (.Call (.Name x p) es [] pos) (tE X.K (cnX X oa) W (ev C me)) := by
  unfold cvCallN at h
  split at h
  · rename_i i hi
    split at h
    · cases h
    rename_i hc
    rw [Bool.or_eq_true, not_or, Bool.not_eq_true, Bool.not_eq_true, Bool.not_eq_false'] at hc
    obtain ⟨hst, hall⟩ := hc
    split at h
    · rename_i a r
      rw [List.any_cons, Bool.or_eq_false_iff] at hst
      split at h
      · rename_i y ys hy hys
        cases h
        obtain ⟨h1, h2, h3⟩ := slot_ok G hi
        obtain ⟨n1, n2, _⟩ := okName_of h3
        refine s_callv (fun f hf => ?_) G.room G.tk h1 h2 (s_cons (hr a y hy) (snd_args G hr hys hst.2) (star_cons hst.1)) n1 n2 (star_cons hst.1) (star_plain hst.2)
        have hf : f ∈ g.vals := by simpa using hf
        exact G.glb.fns f false (of_decide_eq_true (List.all_eq_true.mp hall f hf))
      · cases h
    · cases h
  split at h
  · cases h
  rename_i hc
  rw [Bool.or_eq_true, not_or, Bool.not_eq_true, Bool.not_eq_true, Bool.not_eq_false'] at hc
  obtain ⟨hg, ok⟩ := gl_ok G hc.1
  have hst := hc.2
  split at h
  · rename_i a r hf
    rw [List.any_cons, Bool.or_eq_false_iff] at hst
    split at h
    · rename_i i xs hi hx
      cases h
      obtain ⟨np, Fn⟩ := G.glb.fns _ _ hf
      obtain ⟨hv, _⟩ := nameSlot_var G hi
      exact s_callo Fn G.room G.tk hg hv (snd_args G hr hx hst.2) (okName_of ok).1 (star_cons hst.1) (star_plain hst.2)
    · cases h
  · rename_i a r hf
    rw [List.any_cons, Bool.or_eq_false_iff] at hst
    split at h
    · rename_i y ys hy hx
      cases h
      obtain ⟨np, Fn⟩ := G.glb.fns _ _ hf
      exact s_call Fn G.room G.tk hg (s_cons (hr a y hy) (snd_args G hr hx hst.2) (star_cons hst.1)) (okName_of ok).1 (star_cons hst.1) (star_plain hst.2)
    · cases h
  · split at h
    · rename_i hfr
      exact snd_blt G hr hg ok (G.glb.free x hfr) hst h
    · cases h
  · cases h
theorem m2_of {o a b : Expr} {m : Str} {ap : Pos} (hl : (ap.endLine == p.line) = true) (ho : callB o = false) (hs : starB a = false ∧ starB b = false) : M2 X o m ap a b p where
  base := by cases o <;> first | rfl | cases ho
  few := by rw [star_cons hs.1, star_cons hs.2]; rfl
  line := hl
  trees := by rw [star_cons hs.1, star_cons hs.2]; rfl
theorem snd_meth (G : Good g X C k W oa sc sto) {rec : Expr → Option ME} (hr : Snd oa X C W rec) {o : Expr} {m : Str} {ap : Pos} {es : List Expr} {me : ME} (h : cvMeth g sc rec o m ap es p = some me) :
    PE X (.Call (.Attribute o m ap) es [] p) (tE X.K (cnX X oa) W (ev C me)) := by
  unfold cvMeth at h
  split at h
  · cases h
  rename_i hc
  simp only [Bool.or_eq_true, not_or, Bool.not_eq_true, Bool.not_eq_false'] at hc
  obtain ⟨⟨hl, ho⟩, hst⟩ := hc
  split at h
  · rename_i a b
    have hs : starB a = false ∧ starB b = false := by simpa using hst
    split at h
    · rename_i e
      have e := of_decide_eq_true e
      subst e
      have mm := m2_of (X := X) (m := "get") hl ho hs
      split at h
      · rename_i i hi
        obtain ⟨hv, _⟩ := nameSlot_var G hi
        split at h
        · split at h
          · rename_i x y hx hy
            cases h
            exact s_dget rfl (lt1 G.units) hv (hr _ _ hx) (hr _ _ hy) mm
          · cases h
        · cases h
      · rename_i kvs hn hk
        obtain ⟨d, h1, h2, _⟩ := tabOf_ok G hk
        split at h
        · rename_i x y hx hy
          cases h
          exact s_kget h2 h1 (hr _ _ hx) (hr _ _ hy) mm
        · cases h
      · split at h
        · rename_i z x y hz hx hy
          cases h
          exact s_tget (lt1 G.units) (hr _ _ hz) (hr _ _ hx) (hr _ _ hy) mm
        · cases h
    · cases h
  · split at h
    · rename_i e
      have e := of_decide_eq_true e
      subst e
      cases e1 : rec o with
      | none => rw [e1] at h; cases h
      | some y =>
        rw [e1] at h
        cases h
        exact s_upper (hr _ _ e1) (by cases o <;> first | rfl | cases ho) hl
    · cases h
  · rename_i a
    have hs : starB a = false := by simpa using hst
    split at h
    · rename_i e
      have e := of_decide_eq_true e
      subst e
      split at h
      · rename_i s j p2
        cases e1 : rec o with
        | none => rw [e1] at h; cases h
        | some y =>
          rw [e1] at h
          cases h
          exact s_split (hr _ _ e1) (by cases o <;> first | rfl | cases ho) hl
      · cases h
    · split at h
      · rename_i e
        have e := of_decide_eq_true e
        subst e
        split at h
        · rename_i s j p2
          cases e1 : rec a with
          | none => rw [e1] at h; cases h
          | some y =>
            rw [e1] at h
            cases h
            exact s_join (hr _ _ e1) (star_cons hs) hl
        · cases h
      · cases h
  · cases h
theorem noPar_ok {params : Arguments} (h : noPar params = true) : params = ⟨[], [], none, [], [], none, []⟩ := by
  unfold noPar at h
  split at h
  · rfl
  · cases h
theorem Glb.lamC (G : Glb g X C k oa) (A : Around) (outer : List Env) (s : Shared) (H : Hp) (E : XK) (scope : Scope) (f c' : Addr) : Glb g (MPH.lamC X A outer s H E scope f c') C k oa where
  con := G.con
  tabs := G.tabs
  free := G.free
  fns := fun x own h => let ⟨np, F⟩ := G.fns x own h; ⟨np, ⟨F.mg, F.kp, F.ok, F.ar⟩⟩
  err := fun ef nf h => let e := G.err ef nf h; ⟨e.mg, e.kp, e.ok⟩
  exs := G.exs
theorem snd_lam (G : Good g X C k W oa sc sto) {rec' : Scope → Expr → Option ME} (hr : ∀ (X : Cx) (W : WX) (sc : Scope) (sto : Str → Bool), Good g X C k W oa sc sto → Snd oa X C W (rec' sc)) {f : Expr} {es : List Expr} {ks : List Keyword} {me : ME} (h : cvLam g sc rec' f es ks = some me) :
    PE X (.Call f es ks p) (tE X.K (cnX X oa) W (ev C me)) := by
  unfold cvLam at h
  split at h
  · rename_i x px params body lsc pl
    split at h
    · rename_i nf hnf
      split at h
      · rename_i hc
        simp only [Bool.and_eq_true] at hc
        obtain ⟨⟨⟨⟨h1, h2⟩, h3⟩, h4⟩, h5⟩ := hc
        cases e1 : rec' lsc body with
        | none => rw [e1] at h; cases h
        | some y =>
          rw [e1] at h
          cases h
          obtain ⟨hg, ok⟩ := gl_ok G h3
          have L := LamX.lamS_by h5
          have noL : hasOwn lsc = false := by
            unfold hasOwn
            rw [List.any_eq_false]
            intro y hy
            have := L.own y hy
            simp [this.1, this.2]
          have hp := noPar_ok h4
          subst hp
          refine s_tryn (G.glb.err _ _ hnf) (G.lam (by rw [G.sc, h1, h2]; rfl)) hg (by rw [G.sc]; exact L) rfl (fun q cl pm cv ctv => rfl) (fun A outer s H E f c' hR => ?_) (okName_of ok).1
          exact hr (MPH.lamC X A outer s H E lsc f c') (fun cls d _ H => E cls d H) lsc (fun _ => false) {
            glb := G.glb.lamC A outer s H E lsc f c'
            hN := G.hN
            nd := G.nd
            sc := rfl
            calm := rfl
            tk := L2N.takes_of rfl rfl rfl rfl
            fn := fun x hx => by cases hx
            units := by
              have h := hR.un
              show (A.deeper (MPH.lEnv X lsc s.heap.objs.size f c')).units + 66 < cLine
              omega
            room := hR
            lam := fun z => by
              rw [show (MPH.lamC X A outer s H E lsc f c').env.scope = lsc from rfl, noL] at z
              simp at z } body y e1
      · cases h
    · cases h
  · cases h
theorem snd_call (G : Good g X C k W oa sc sto) {rec : Expr → Option ME} (hr : Snd oa X C W rec) {f : Expr} {es : List Expr} {ks : List Keyword} {me : ME} (h : cvCall g sc rec f es ks p = some me) :
    PE X (.Call f es ks p) (tE X.K (cnX X oa) W (ev C me)) := by
  unfold cvCall at h
  split at h
  · exact snd_callN G hr h
  · exact snd_meth G hr h
  · cases h
theorem kvsOf_ok : ∀ {ks : List (Option Expr)} {vs : List Expr} {kvs : List (Str × Int)}, kvsOf ks vs = some kvs → kvE kvs ks vs
  | [], [], kvs, h => by cases h; exact True.intro
  | some (.Constant (.str k) _ _) :: ks, .Constant (.int n) _ _ :: vs, kvs, h => by
    unfold kvsOf at h
    cases e : kvsOf ks vs with
    | none => rw [e] at h; cases h
    | some r => rw [e] at h; cases h; exact ⟨rfl, rfl, kvsOf_ok e⟩
  | [], _ :: _, _, h => by cases h
theorem snd_dict {ks : List (Option Expr)} {vs : List Expr} {me : ME} (h : cvDict ks vs = some me) : PE X (.Dict ks vs p) (tE X.K (cnX X oa) W (ev C me)) := by
  unfold cvDict at h
  split at h
  · rename_i kvs hk
    split at h
    · rename_i hc
      simp only [Bool.and_eq_true, decide_eq_true_eq] at hc
      cases h
      exact s_ddisp (kvsOf_ok hk) (fun e => by rw [e] at hc; simp at hc) hc.1.2 hc.2
    · cases h
  · cases h
theorem snd_src (G : Good g X C k W oa sc sto) {rec : Expr → Option ME} (hr : Snd oa X C W rec) {e tg : Expr} {me : Src} (h : cvSrc g sc rec e = some me) :
    PI X tg e (tI X.K (cnX X oa) W (evsrc C me)) ∧ setB e = false := by
  unfold cvSrc at h
  split at h
  · cases h
  rename_i hsb
  have hsb : setB e = false := by simpa using hsb
  refine ⟨?_, hsb⟩
  have dflt : (rec e).map Src.v = some me → PI X tg e (tI X.K (cnX X oa) W (evsrc C me)) := fun h => by
    cases e0 : rec e with
    | none => rw [e0] at h; cases h
    | some y => rw [e0] at h; cases h; exact s_srcv (hr e y e0)
  split at h
  · rename_i f pf a q _
    split at h
    · rename_i hc
      rw [Bool.and_eq_true] at hc
      obtain ⟨hg, ok, hm, rfl⟩ := blt_ok G hc.1
      have hs : starB a = false := by simpa using hc.2
      cases e0 : rec a with
      | none => rw [e0] at h; cases h
      | some y => rw [e0] at h; cases h; exact s_r1 hg hm (hr a y e0) (star_cons hs)
    · exact dflt h
  · rename_i f pf a b q _
    split at h
    · rename_i hc
      rw [Bool.and_eq_true, Bool.and_eq_true] at hc
      obtain ⟨hg, ok, hm, rfl⟩ := blt_ok G hc.1.1
      have hs : starB a = false := by simpa using hc.1.2
      have hs2 : starB b = false := by simpa using hc.2
      split at h
      · rename_i x y h1 h2
        cases h
        exact s_r2 hg hm (hr _ _ h1) (hr _ _ h2) (by rw [star_cons hs, star_cons hs2]; rfl) (star_cons hs2)
      · cases h
    · exact dflt h
  · exact dflt h
theorem asg_cons {e : Expr} {es : List Expr} {env : Env} (h : starB e = false) : assignEach (e :: es) env = (false, assign e env) :: assignEach es env := by
  cases e <;> first | rfl | cases h
theorem snd_tg (G : Good g X C k W oa sc sto) : ∀ {n : Nat} {e : Expr} {t : Tg}, cvtg g sc sto n e = some t → PG X e (tG X.K (cnX X oa) t) ∧ starB e = false
  | 0, e, t, h => by
    unfold cvtg at h
    cases h
  | n + 1, e, t, h => by
    unfold cvtg at h
    split at h
    · rename_i m x px q
      cases q
      split at h
      · rename_i hs
        split at h
        · rename_i hl
          cases e : slot g sc x with
          | none => rw [e] at h; cases h
          | some i => rw [e] at h; cases h; exact ⟨s_nm (by rw [G.hN]; exact G.nd) (slot_ok G e).1 (.inl (by rw [G.sc]; exact hl)) (G.fn x hs), rfl⟩
        · rename_i hl
          cases e : slot g sc x with
          | none => rw [e] at h; cases h
          | some i => rw [e] at h; cases h; exact ⟨s_nm (by rw [G.hN]; exact G.nd) (slot_ok G e).1 (.inr (by rw [G.sc]; exact hl)) (G.fn x hs), rfl⟩
        · cases h
      · cases h
    · rename_i m a b kk pp q
      cases q
      split at h
      · rename_i x y h1 h2
        cases h
        obtain ⟨g1, s1⟩ := snd_tg G h1
        obtain ⟨g2, s2⟩ := snd_tg G h2
        exact ⟨s_tp2 G.calm g1 g2 (by rw [asg_cons s2]; rfl) (by rw [asg_cons s1]; rfl) (by rw [asg_cons s1, asg_cons s2]; rfl) (by rw [asg_cons s1, asg_cons s2]; rfl), rfl⟩
      · cases h
    · rename_i m a b c kk pp q
      cases q
      split at h
      · rename_i x y z h1 h2 h3
        cases h
        obtain ⟨g1, s1⟩ := snd_tg G h1
        obtain ⟨g2, s2⟩ := snd_tg G h2
        obtain ⟨g3, s3⟩ := snd_tg G h3
        exact ⟨s_tp3 G.calm g1 g2 g3 (by rw [asg_cons s3]; rfl) (by rw [asg_cons s2]; rfl) (by rw [asg_cons s1]; rfl) (by rw [asg_cons s1, asg_cons s2, asg_cons s3]; rfl) (by rw [asg_cons s1, asg_cons s2, asg_cons s3]; rfl), rfl⟩
      · cases h
    · cases h
theorem folded_of {e : Expr} {env : Env} (h : setB e = false) : ∀ x, foldedSetIterable e env x = pure x := by intro x; cases e <;> first | rfl | cases h
end
end MP

end
section
set_option linter.all false
set_option Elab.async false
set_option maxRecDepth 100000
set_option maxHeartbeats 4000000
/-! .. of comprehensions; all expressions. -/
namespace MP
open PySem PySem.Spec PyProof.Rows L2
section
variable {g : Gs} {X : Cx} {C : CallF} {k : Nat} {W : WX} {sc : Scope} {sto : Str → Bool} {oa : Oa} {pos p : Pos}
theorem Glb.blk (G : Glb g X C k oa) (s : Shared) (H : Hp) (scope : Scope) (env : Env) (fp : List Addr) : Glb g (X.blk s H scope env fp) C k oa where
  con := G.con
  tabs := G.tabs
  free := G.free
  fns := fun x own h => let ⟨np, F⟩ := G.fns x own h; ⟨np, ⟨F.mg, F.kp, F.ok, F.ar⟩⟩
  err := fun ef nf h => let e := G.err ef nf h; ⟨e.mg, e.kp, e.ok⟩
  exs := G.exs
theorem relS_eq (scope : Scope) (env : Env) : relabel scope env = relS scope env.scope := rfl
theorem relS_local {scope sc : Scope} {x : Str} (h : scope.names.lookup x = some .local) : (relS scope sc).names.lookup x = some .local := by
  unfold relS
  dsimp only
  generalize scope.names = l at h
  induction l with
  | nil => cases h
  | cons p r ih =>
    obtain ⟨n, k⟩ := p
    rw [List.map_cons]
    rw [List.lookup_cons] at h
    dsimp only
    split
    · rename_i hk
      rw [List.lookup_cons]
      cases e : x == n with
      | true =>
        rw [e] at h
        have : k = .local := by simpa using h
        subst this
        simp at hk
      | false =>
        rw [e] at h
        exact ih h
    · rw [List.lookup_cons]
      cases e : x == n with
      | true =>
        rw [e] at h
        exact h
      | false =>
        rw [e] at h
        exact ih h
theorem Good.blk (G : Good g X C k W oa sc sto) (hl : g.lam = true → hasOwn sc = true) (s : Shared) (H : Hp) (scope : Scope) (C' : Addr) (cl : List (Str × Addr)) (fp : List Addr) : Good g (X.blk s H scope (compEnvC scope cl C' X.env) fp) C k W0 oa (relS scope sc) (stoC scope) where
  glb := G.glb.blk s H scope _ fp
  hN := G.hN
  nd := G.nd
  sc := by rw [← G.sc]; rfl
  calm := G.calm
  tk := fun u s' ⟨a, B, sI, pins, σ, H, cls, d, e, I, nb, up, sky, na, os, ag, w⟩ => w
  fn := fun x hx => by
    unfold stoC at hx
    split at hx
    · rename_i e; exact .inr (relS_local e)
    · rename_i e
      refine .inl ?_
      show (scope.names.lookup x == some .cell) = true
      rw [e]; rfl
    · cases hx
  units := G.units
  room := G.room
  lam := fun z => by
    rw [Bool.and_eq_true] at z
    obtain ⟨c, P, a1, a2, a3, a4, a5⟩ := G.lam (by rw [G.sc, z.1, hl z.1]; rfl)
    exact ⟨c, P, a1, a2, a3, a4, a5⟩
/-- what a comprehension's text gives -/
structure CompOk (oa : Oa) (X : Cx) (C : CallF) (W : WX) (elt tg it : Expr) (ifs : List Expr) (scope : Scope) (own : List (Str × Nat)) (t : Tg) (s : Src) (c : MC) (e : ME) : Prop where
  nd : X.N.Nodup
  hi : PI X tg it (tI X.K (cnX X oa) W (evsrc C s))
  ok : BlkOk X.N X.env.scope scope own
  ht : ∀ i ∈ tgs t, i ∈ own.map (·.2)
  hg : ∀ (s : Shared) (H : Hp) (C : Addr) (cl : List (Str × Addr)) (fp : List Addr), PG (X.blk s H scope (compEnvC scope cl C X.env) fp) tg (tG X.K (cnX X oa) t)
  hc : ∀ (s : Shared) (H : Hp) (C' : Addr) (cl : List (Str × Addr)) (fp : List Addr), PTs (X.blk s H scope (compEnvC scope cl C' X.env) fp) ifs (tT X.K (cnX X oa) W0 (evc C c))
  he : ∀ (s : Shared) (H : Hp) (C' : Addr) (cl : List (Str × Addr)) (fp : List Addr), PE (X.blk s H scope (compEnvC scope cl C' X.env) fp) elt (tE X.K (cnX X oa) W0 (ev C e))
  hs : ∀ x, foldedSetIterable it X.env x = pure x
theorem PTs.no {c : List Expr} : PTs X [] (tT X.K (cnX X oa) W fun env => .ok (true, env)) := PTs.weak pts_nil fun σ H Q ⟨Z, F, ρ, S, q⟩ => q F H (Sub.refl F) S
abbrev SndAll (oa : Oa) (g : Gs) (C : CallF) (k : Nat) (n : Nat) : Prop := ∀ (X : Cx) (W : WX) (sc : Scope) (sto : Str → Bool), Good g X C k W oa sc sto → Snd oa X C W (cv g n sc) ∧ ∀ e me, cvt g n sc e = some me → PT X e (tT X.K (X.prog, X.w, oa) W (evt C me))
theorem comp_ok {n : Nat} (hE : SndAll oa g C k n) (G : Good g X C k W oa sc sto) {elt : Expr} {gens : List Comprehension} {scope : Scope} {me : ME}
    (h : cvComp g sc (cv g n sc) (fun sc' e => cv g n sc' e) (fun sc' l => match l with | [] => some .none | [e] => (cvt g n sc' e).map .some | _ => none) elt gens scope = some me) :
    ∃ tg it ifs own t s c e, gens = [⟨tg, it, ifs, 0⟩] ∧ me = .comp t s c e (own.map (·.2)) ∧ CompOk oa X C W elt tg it ifs scope own t s c e := by
  unfold cvComp at h
  split at h
  · rename_i tg it ifs
    dsimp only at h
    split at h
    · rename_i hb
      rw [Bool.and_eq_true, Bool.or_eq_true, Bool.not_eq_true'] at hb
      have hl : g.lam = true → hasOwn sc = true := fun z => hb.2.resolve_left (by rw [z]; simp)
      have hb := hb.1
      split at h
      · rename_i t s c e h1 h2 h3 h4
        split at h
        · rename_i hall
          cases h
          obtain ⟨hi, hsb⟩ := snd_src (tg := tg) G (hE X W sc sto G).1 h2
          refine ⟨tg, it, ifs, ownNames g scope, t, s, c, e, rfl, rfl, by rw [G.hN]; exact G.nd, hi, ?_, fun i hi => ?_, fun s0 H0 C0 cl fp => ?_, fun s0 H0 C0 cl fp => ?_, fun s0 H0 C0 cl fp => ?_, folded_of hsb⟩
          · rw [G.hN, G.sc]; exact blkOk_by hb
          · have := List.all_eq_true.mp hall i hi
            simpa using this
          · exact (snd_tg (G.blk hl s0 H0 scope C0 cl fp) h1).1
          · split at h3
            · cases h3
              exact PTs.no (X := X.blk s0 H0 scope (compEnvC scope cl C0 X.env) fp) (c := [])
            · rename_i e0
              cases e1 : cvt g n (relS scope sc) e0 with
              | none => rw [e1] at h3; cases h3
              | some y =>
                rw [e1] at h3; cases h3
                exact pts_one ((hE _ _ _ _ (G.blk hl s0 H0 scope C0 cl fp)).2 e0 y e1)
            · cases h3
          · exact (hE _ _ _ _ (G.blk hl s0 H0 scope C0 cl fp)).1 elt e h4
        · cases h
      · cases h
    · cases h
  · cases h
theorem snd_comp (G : Good g X C k W oa sc sto) {elt tg it : Expr} {ifs : List Expr} {scope : Scope} {own : List (Str × Nat)} {t : Tg} {s : Src} {c : MC} {e : ME} (K : CompOk oa X C W elt tg it ifs scope own t s c e) :
    PE X (.ListComp elt [⟨tg, it, ifs, 0⟩] scope pos) (tE X.K (cnX X oa) W (ev C (.comp t s c e (own.map (·.2))))) :=
  PE.weak (pe_lc G.calm K.nd K.hi K.ok K.hg K.hc K.he K.hs) fun σ H Q q => s_comp G.calm K.nd K.hi K.ok K.ht K.hg K.hc K.he q
theorem istrue_plain {e : Expr} {env : Env} (h : (match e with | .UnaryOp .Not _ _ | .BoolOp .. | .IfExp .. | .Compare .. => false | _ => true) = true) : ∀ whole, isTrue e env whole = (do let v ← whole; standAt e.pos; holding [v] (truthy v)) := by
  intro whole
  cases e with
  | UnaryOp op a p => cases op <;> first | rfl | cases h
  | _ => first | rfl | cases h
theorem pw_one {op : BoolOp} {a : Expr} {t : TT} (h : PT X a t) : PW X (.BoolOp op [a] pos) t := by
  cases op
  · exact pw_and1 h
  · exact pw_or1 h
end
end MP

end
section
set_option linter.all false
set_option Elab.async false
set_option maxRecDepth 100000
set_option maxHeartbeats 4000000
/-! All expressions. -/
namespace MP
open PySem PySem.Spec PyProof.Rows L2
section
variable {g : Gs} {X : Cx} {C : CallF} {k : Nat} {W : WX} {sc : Scope} {sto : Str → Bool} {oa : Oa} {pos p : Pos}
theorem opOf_op2Of {op : Operator} {o : Op2} (h : op2Of op = some o) : opOf o = op := by
  cases op <;> first | (cases h; rfl) | cases h
theorem sndE_step {n : Nat} (ih : SndAll oa g C k n) (G : Good g X C k W oa sc sto) : Snd oa X C W (cv g (n + 1) sc) := by
  intro e me h
  obtain ⟨hr, ht⟩ := ih X W sc sto G
  have hro : ∀ (o : Option Expr) (mo : MO), (match o with | none => some MO.none | some e => (cv g n sc e).map MO.some) = some mo → PO X o (tO X.K (X.prog, X.w, oa) W (evo C mo)) := by
    intro o mo h
    cases o with
    | none => cases h; exact s_noPart
    | some e =>
      cases e1 : cv g n sc e with
      | none => dsimp only at h; rw [e1] at h; cases h
      | some y => dsimp only at h; rw [e1] at h; cases h; exact s_part (hr e y e1)
  unfold cv at h
  split at h
  · exact snd_name G h
  · exact snd_const h
  · rename_i es kk ps
    split at h
    · rename_i hc
      simp only [Bool.and_eq_true, decide_eq_true_eq, Bool.not_eq_true'] at hc
      cases e1 : mapE (cv g n sc) es with
      | none => rw [e1] at h; cases h
      | some ms => rw [e1] at h; cases h; exact s_tup hc.1 (snd_args G hr e1 hc.2) (mapE_len e1)
    · cases h
  · rename_i es ps
    split at h
    · rename_i hc
      simp only [Bool.and_eq_true, decide_eq_true_eq, Bool.not_eq_true'] at hc
      cases e1 : mapE (cv g n sc) es with
      | none => rw [e1] at h; cases h
      | some ms => rw [e1] at h; cases h; exact s_lst hc.1 (snd_args G hr e1 hc.2) (mapE_len e1)
    · cases h
  · rename_i a ps
    cases e1 : cv g n sc a with
    | none => rw [e1] at h; cases h
    | some y => rw [e1] at h; cases h; exact s_neg (hr a y e1)
  · rename_i a ps
    cases e1 : cv g n sc a with
    | none => rw [e1] at h; cases h
    | some y => rw [e1] at h; cases h; exact s_not (hr a y e1)
  · rename_i a op b ps
    split at h
    · rename_i o x y h0 h1 h2
      cases h
      have := s_bin (cn := cnX X oa) (o := o) (pos := ps) (hr a x h1) (hr b y h2)
      rw [opOf_op2Of h0] at this
      exact this
    · cases h
  · exact (snd_cmp G hr h).1
  · exact (snd_chain G hr h).1
  · exact pe_one (hr _ _ h)
  · exact pe_one (hr _ _ h)
  · split at h
    · rename_i x y h1 h2
      cases h
      exact s_and (hr _ _ h1) (hr _ _ h2)
    · cases h
  · split at h
    · rename_i x y h1 h2
      cases h
      exact s_or (hr _ _ h1) (hr _ _ h2)
    · cases h
  · split at h
    · rename_i x y z h1 h2 h3
      cases h
      exact s_ife (ht _ _ h1) (hr _ _ h2) (hr _ _ h3)
    · cases h
  · exact snd_sub G hr hro h
  · split at h
    · rename_i hl
      cases h
      exact snd_lam G (fun X W sc sto G => (ih X W sc sto G).1) hl
    · exact snd_call G hr h
  · exact snd_dict h
  · rename_i elt gens scope ps
    obtain ⟨tg, it, ifs, own, t, s, c, e, rfl, rfl, K⟩ := comp_ok ih G h
    exact snd_comp G K
  · cases h
/-- the tests of and/or are PW -/
abbrev SndW (oa : Oa) (g : Gs) (C : CallF) (k : Nat) (n : Nat) : Prop := ∀ (X : Cx) (W : WX) (sc : Scope) (sto : Str → Bool), Good g X C k W oa sc sto → ∀ op l p mt, cvt g n sc (.BoolOp op l p) = some mt → PW X (.BoolOp op l p) (tT X.K (X.prog, X.w, oa) W (evt C mt))
theorem sndT_step {n : Nat} (ih : SndAll oa g C k n) (ihw : SndW oa g C k n) (G : Good g X C k W oa sc sto) :
    (∀ e me, cvt g (n + 1) sc e = some me → PT X e (tT X.K (X.prog, X.w, oa) W (evt C me))) ∧ ∀ op l p mt, cvt g (n + 1) sc (.BoolOp op l p) = some mt → PW X (.BoolOp op l p) (tT X.K (X.prog, X.w, oa) W (evt C mt)) := by
  obtain ⟨hr, ht⟩ := ih X W sc sto G
  have hw := ihw X W sc sto G
  have B : ∀ op l p mt, cvt g (n + 1) sc (.BoolOp op l p) = some mt → PW X (.BoolOp op l p) (tT X.K (X.prog, X.w, oa) W (evt C mt)) := by
    intro op l p mt h
    cases l with
    | nil => cases op <;> (unfold cvt at h; cases h)
    | cons a r =>
      cases r with
      | nil => cases op <;> (unfold cvt at h; exact pw_one (ht _ _ h))
      | cons b r =>
        cases op
        · have h : (match cvt g n sc a, cvt g n sc (.BoolOp .And (b :: r) p) with
            | some x, some y => some (MT.and x y)
            | _, _ => none) = some mt := by unfold cvt at h; exact h
          split at h
          · rename_i x y h1 h2
            cases h
            exact s_andT (ht _ _ h1) (hw _ _ _ _ h2)
          · cases h
        · have h : (match cvt g n sc a, cvt g n sc (.BoolOp .Or (b :: r) p) with
            | some x, some y => some (MT.or x y)
            | _, _ => none) = some mt := by unfold cvt at h; exact h
          split at h
          · rename_i x y h1 h2
            cases h
            exact s_orT (ht _ _ h1) (hw _ _ _ _ h2)
          · cases h
  refine ⟨fun e me h => ?_, B⟩
  have dflt : ∀ (e : Expr) (me : MT), (match e with | .UnaryOp .Not _ _ | .BoolOp .. | .IfExp .. | .Compare .. => false | _ => true) = true → (cv g n sc e).map MT.v = some me → PT X e (tT X.K (X.prog, X.w, oa) W (evt C me)) := by
    intro e me he h
    cases e1 : cv g n sc e with
    | none => rw [e1] at h; cases h
    | some y => rw [e1] at h; cases h; exact s_tru (hr e y e1) (istrue_plain he)
  cases e with
  | BoolOp op l p => exact (B op l p me h).pt
  | UnaryOp op a p =>
    cases op with
    | Not =>
      have h : (cvt g n sc a).map MT.not = some me := by unfold cvt at h; exact h
      cases e1 : cvt g n sc a with
      | none => rw [e1] at h; cases h
      | some y => rw [e1] at h; cases h; exact s_notT (ht _ _ e1)
    | _ => unfold cvt at h; exact dflt _ _ rfl h
  | IfExp => unfold cvt at h; cases h
  | Compare a ops bs p =>
    have no : ∀ {o : Option MT}, o = none → o = some me → PT X (.Compare a ops bs p) (tT X.K (X.prog, X.w, oa) W (evt C me)) := fun h1 h2 => by rw [h1] at h2; cases h2
    unfold cvt at h
    match ops, bs, h with
    | [op], [b], h =>
      have h : (cvCmp g sc (cv g n sc) a op b).map MT.v = some me := h
      cases e1 : cvCmp g sc (cv g n sc) a op b with
      | none => rw [e1] at h; cases h
      | some y => rw [e1] at h; cases h; exact (snd_cmp G hr e1).2
    | [op, op'], [b, c], h =>
      have h : (cvChain (cv g n sc) a op op' b c).map MT.v = some me := h
      cases e1 : cvChain (cv g n sc) a op op' b c with
      | none => rw [e1] at h; cases h
      | some y => rw [e1] at h; cases h; exact (snd_chain G hr e1).2
    | [], _, h => exact absurd h (by simp)
    | [_], [], h => exact absurd h (by simp)
    | [_], _ :: _ :: _, h => exact absurd h (by simp)
    | [_, _], [], h => exact absurd h (by simp)
    | [_, _], [_], h => exact absurd h (by simp)
    | [_, _], _ :: _ :: _ :: _, h => exact absurd h (by simp)
    | _ :: _ :: _ :: _, _, h => exact absurd h (by simp)
  | _ => unfold cvt at h; exact dflt _ _ rfl h
theorem snd_all : ∀ n, SndAll oa g C k n ∧ SndW oa g C k n
  | 0 => ⟨fun X W sc sto G => ⟨fun e me h => (by unfold cv at h; cases h), fun e me h => (by unfold cvt at h; cases h)⟩, fun X W sc sto G op l p mt h => by unfold cvt at h; cases h⟩
  | n + 1 => by
    obtain ⟨a, b⟩ := snd_all n
    exact ⟨fun X W sc sto G => ⟨sndE_step a G, (sndT_step a b G).1⟩, fun X W sc sto G => (sndT_step a b G).2⟩
theorem sndE (G : Good g X C k W oa sc sto) (n : Nat) : Snd oa X C W (cv g n sc) := ((snd_all n).1 X W sc sto G).1
theorem sndT (G : Good g X C k W oa sc sto) (n : Nat) : ∀ e me, cvt g n sc e = some me → PT X e (tT X.K (X.prog, X.w, oa) W (evt C me)) := ((snd_all n).1 X W sc sto G).2
end
end MP

end
section
set_option linter.all false
set_option Elab.async false
set_option maxRecDepth 100000
set_option maxHeartbeats 4000000
/-! All statements. -/
namespace MP
open PySem PySem.Spec PyProof.Rows L2
structure GoodS (g : Gs) (X : Cx) (C : CallF) (k : Nat) (W : WX) (oa : Oa) (sc : Scope) : Prop where
  G : Good g X C k W oa sc fun _ => true
  bk : X.env.blockKind = .function
  hp : PassesOwn (model X.prog X.w) X.A X.env X.xe
section
variable {g : Gs} {X : Cx} {C : CallF} {k : Nat} {W : WX} {sc : Scope} {sto : Str → Bool} {oa : Oa} {pos p : Pos}
theorem sw_no {e : Expr} {t : Option Expr} {l : Nat} {env : Env} (h : compB e = false) : swapsWith e t l env = pure false := by cases e <;> first | rfl | cases h
theorem sw_tup {e : Expr} {ts : List Expr} {kk : Nat} {l : Nat} {env : Env} (h : compB e = false) : swapsWithSole [.Tuple ts kk pos] e l env = pure false := by unfold swapsWithSole; exact sw_no h
theorem kind_ok (G : Good g X C k W oa sc sto) {x : Str} {kd : NameKind} (h : isKind sc x kd = true) : X.env.scope.names.lookup x = some kd := by
  unfold isKind at h
  rw [G.sc]; exact of_decide_eq_true h
/-- x = e -/
theorem snd_asg (S : GoodS g X C k W oa sc) {x : Str} {px : Pos} {e : Expr} {i : Nat} {me : ME} {own : Bool} (hi : slot g sc x = some i) (hk : (isKind sc x .local || isKind sc x .cell) = true) (h : cv g fuelE sc e = some me) :
    PS X (.Assign [.Name x px] e pos) (tS X.K (cnX X oa) W (ex C (.asg i own me))) := by
  have G := S.G
  have nd : X.N.Nodup := by rw [G.hN]; exact G.nd
  have hx : Loc X.env.scope x := by
    rw [Bool.or_eq_true] at hk
    rcases hk with hk | hk
    · exact .inl (kind_ok G hk)
    · exact .inr (kind_ok G hk)
  have he := sndE (oa := oa) G fuelE e me h
  cases hc : compB e with
  | false => exact s_asg (ps_set nd (slot_ok G hi).1 hx he (sw_no hc) (G.fn x rfl))
  | true =>
    cases e with
    | ListComp elt gens scope ps =>
      have h' : cvComp g sc (cv g 39 sc) (fun sc' e => cv g 39 sc' e) (fun sc' l => match l with | [] => some .none | [e] => (cvt g 39 sc' e).map .some | _ => none) elt gens scope = some me := h
      obtain ⟨tg, it, ifs, ow, t, s, c, e, rfl, rfl, K⟩ := comp_ok (oa := oa) (snd_all 39).1 G h'
      have sw : swapsWith (.ListComp elt [⟨tg, it, ifs, 0⟩] scope ps) (some (.Name x px)) pos.line X.env = pure (X.env.blockKind == .function && X.env.kindOf x == some .local && px.line == ps.line && !(scope.names.any fun (n, k) => n == x && (k == .local || k == .cell))) := rfl
      cases hb : (X.env.blockKind == .function && X.env.kindOf x == some .local && px.line == ps.line && !(scope.names.any fun (n, k) => n == x && (k == .local || k == .cell))) with
      | false =>
        rw [hb] at sw
        exact s_asg (ps_set nd (slot_ok G hi).1 hx he sw (G.fn x rfl))
      | true =>
        rw [hb] at sw
        have hl : X.env.scope.names.lookup x = some .local := by
          simp only [Bool.and_eq_true] at hb
          have := hb.1.1.2
          exact eq_of_beq this
        refine s_asg (PS.weak (ps_setLc G.calm nd (slot_ok G hi).1 hl sw K.hi K.ok K.hg K.hc K.he K.hs) fun D σ H q => ?_)
        exact s_comp G.calm K.nd K.hi K.ok K.ht K.hg K.hc K.he q
    | _ => first | (cases hc; done) | (exfalso; unfold cv at h; cases h)
theorem dups2 {x y : Str} (hxy : x ≠ y) : ([x, y] : List Str).eraseDups = [x, y] := by
  have ne : (y == x) = false := by
    cases q : y == x with
    | false => rfl
    | true => exact absurd (eq_of_beq q).symm hxy
  simp [List.eraseDups_cons, ne]
theorem dups3 {x y z : Str} (hxy : x ≠ y) (hxz : x ≠ z) (hyz : y ≠ z) : ([x, y, z] : List Str).eraseDups = [x, y, z] := by
  have ne : ∀ {a b : Str}, a ≠ b → (b == a) = false := fun {a b} h => by
    cases q : b == a with
    | false => rfl
    | true => exact absurd (eq_of_beq q).symm h
  simp [List.eraseDups_cons, ne hxy, ne hxz, ne hyz]
theorem starM (a : Expr) (h : starB a = false) : (match a with | .Starred .. => true | _ => false) = false := by cases a <;> first | rfl | cases h
theorem swap2 {x y : Str} {px py pt p2 : Pos} {a b : Expr} {kt k2 : Nat} {env : Env} (bk : env.blockKind = .function) (hx : env.kindOf x = some .local) (hy : env.kindOf y = some .local) (hl : px.line = py.line) (hxy : x ≠ y)
    (h1 : [a, b].all (foldedForSure 8) = false) (h2 : [a, b].all (constantsAlone 8) = false) (h3 : [a, b].any starB = false) :
    swappedStores [.Tuple [.Name x px, .Name y py] kt pt] (.Tuple [a, b] k2 p2) env = pure (some [x, y]) := by
  have h3 : starB a = false ∧ starB b = false := by simpa using h3
  have l2 : (py.line == px.line) = true := by rw [hl]; simp
  unfold swappedStores
  dsimp only
  simp only [bk, h1, h2]
  simp [Expr.pos, hx, hy, l2, hl, dups2 hxy]
  intro h
  exfalso
  have z1 := h3.1
  have z2 := h3.2
  clear h1 h2 h3
  rcases h with h | h
  · cases a <;> first | (cases h; done) | (cases z1; done)
  · cases b <;> first | (cases h; done) | (cases z2; done)
theorem swap3 {x y z : Str} {px py pz pt p2 : Pos} {a b c : Expr} {kt k2 : Nat} {env : Env} (bk : env.blockKind = .function) (hx : env.kindOf x = some .local) (hy : env.kindOf y = some .local) (hz : env.kindOf z = some .local) (hl : px.line = py.line) (hl2 : px.line = pz.line) (hxy : x ≠ y) (hxz : x ≠ z) (hyz : y ≠ z)
    (h1 : [a, b, c].all (foldedForSure 8) = false) (h2 : [a, b, c].all (constantsAlone 8) = false) (h3 : [a, b, c].any starB = false) :
    swappedStores [.Tuple [.Name x px, .Name y py, .Name z pz] kt pt] (.Tuple [a, b, c] k2 p2) env = pure (some [x, y, z]) := by
  have h3 : starB a = false ∧ starB b = false ∧ starB c = false := by simpa using h3
  unfold swappedStores
  dsimp only
  simp only [bk, h1, h2]
  simp [Expr.pos, hx, hy, hz, ← hl, ← hl2, dups3 hxy hxz hyz]
  intro h
  exfalso
  have z1 := h3.1
  have z2 := h3.2.1
  have z3 := h3.2.2
  clear h1 h2 h3
  rcases h with h | h | h
  · cases a <;> first | (cases h; done) | (cases z1; done)
  · cases b <;> first | (cases h; done) | (cases z2; done)
  · cases c <;> first | (cases h; done) | (cases z3; done)
/-- a, b = x, y: exchanged stores -/
theorem snd_par (S : GoodS g X C k W oa sc) {ts vs : List Expr} {kt k2 : Nat} {pt p2 : Pos} {is : List (Nat × Bool)} {es : MEs} (hp : parOk g sc ts vs = some is) (hv : mapE (cv g fuelE sc) vs = some es) :
    PS X (.Assign [.Tuple ts kt pt] (.Tuple vs k2 p2) pos) (tS X.K (cnX X oa) W (ex C (.par is es))) := by
  have G := S.G
  have nd : X.N.Nodup := by rw [G.hN]; exact G.nd
  have inj : ∀ {i j : Nat} {x y : Str}, X.N[i]? = some x → X.N[j]? = some y → x ≠ y → i ≠ j := fun h1 h2 h3 e => by
    subst e; rw [h1] at h2; exact h3 (Option.some.inj h2)
  unfold parOk at hp
  split at hp
  · cases hp
  rename_i hc
  simp only [Bool.or_eq_true, not_or, Bool.not_eq_true] at hc
  obtain ⟨⟨c1, c2⟩, c3⟩ := hc
  have ha := snd_argsR G (sndE (oa := oa) G fuelE) hv c3
  split at hp
  · rename_i x px y py a b
    split at hp
    · rename_i i j hi hj
      split at hp
      · rename_i hk
        cases hp
        simp only [Bool.and_eq_true, decide_eq_true_eq] at hk
        obtain ⟨⟨⟨k1, k3⟩, k4⟩, k5⟩ := hk
        have hij := inj (slot_ok G hi).1 (slot_ok G hj).1 k5
        refine s_par (ps_par G.calm nd (slot_ok G hi).1 (slot_ok G hj).1 hij (kind_ok G k1) (kind_ok G k3) ha (swap2 S.bk (kind_ok G k1) (kind_ok G k3) k4 k5 c1 c2 c3) rfl) (fun D σ H h => ?_) (mapR_len hv)
        obtain ⟨Z, F, ρ, Sk, q⟩ := h
        refine ⟨Z, F, ρ, Sk, q.imp (fun rs ρ1 h vs F1 H1 s1 S1 rr => ?_) fun _ h => h⟩
        obtain ⟨hl, hh⟩ := h vs F1 H1 s1 S1 rr
        match vs, hl, hh with
        | [v, w], _, hh => exact ⟨v, w, rfl, hh H1 (.inl rfl)⟩
      · cases hp
    · cases hp
  · rename_i x px y py z pz a b c
    split at hp
    · rename_i i j l hi hj hl
      split at hp
      · rename_i hk
        cases hp
        simp only [Bool.and_eq_true, decide_eq_true_eq] at hk
        obtain ⟨⟨⟨⟨⟨⟨⟨k1, k2⟩, k3⟩, k4⟩, k5⟩, k6⟩, k7⟩, k8⟩ := hk
        have hij := inj (slot_ok G hi).1 (slot_ok G hj).1 k6
        have hil := inj (slot_ok G hi).1 (slot_ok G hl).1 k7
        have hjl := inj (slot_ok G hj).1 (slot_ok G hl).1 k8
        refine s_par (ps_par3 G.calm nd (slot_ok G hi).1 (slot_ok G hj).1 (slot_ok G hl).1 hij hil hjl (kind_ok G k1) (kind_ok G k2) (kind_ok G k3) ha (swap3 S.bk (kind_ok G k1) (kind_ok G k2) (kind_ok G k3) k4 k5 k6 k7 k8 c1 c2 c3) rfl) (fun D σ H h => ?_) (mapR_len hv)
        obtain ⟨Z, F, ρ, Sk, q⟩ := h
        refine ⟨Z, F, ρ, Sk, q.imp (fun rs ρ1 h vs F1 H1 s1 S1 rr => ?_) fun _ h => h⟩
        obtain ⟨hl, hh⟩ := h vs F1 H1 s1 S1 rr
        match vs, hl, hh with
        | [u, v, w], _, hh => exact ⟨u, v, w, rfl, hh H1 (.inl rfl)⟩
      · cases hp
    · cases hp
  · cases hp
end
end MP

end
section
set_option linter.all false
set_option Elab.async false
set_option maxRecDepth 100000
set_option maxHeartbeats 4000000
/-! All statements, a def's body. -/
namespace MP
open PySem PySem.Spec PyProof.Rows L2
theorem filt_lt {α β : Type} {f : α → Option β} : ∀ {l : List α}, (l.any fun a => (f a).isNone) = true → (l.filterMap f).length < l.length
  | [], h => by simp at h
  | a :: r, h => by
    rw [List.filterMap_cons]
    cases e : f a with
    | none =>
      have := List.length_filterMap_le f r
      show (r.filterMap f).length < r.length + 1
      omega
    | some b =>
      rw [List.any_cons, e] at h
      have := filt_lt (l := r) (by simpa using h)
      exact Nat.succ_lt_succ this
theorem swap_fold {ts vs : List Expr} {kt k2 : Nat} {pt p2 : Pos} {env : Env} (h : vs.all (foldedForSure 8) = true) : swappedStores [.Tuple ts kt pt] (.Tuple vs k2 p2) env = pure none := by
  unfold swappedStores
  dsimp only
  simp only [h]
  repeat (first | rfl | split)
theorem swap_cell {ts vs : List Expr} {kt k2 : Nat} {pt p2 : Pos} {env : Env} (h : (ts.any fun t => match t with
    | .Name x _ => !decide (env.scope.names.lookup x = some .local)
    | _ => true) = true) : swappedStores [.Tuple ts kt pt] (.Tuple vs k2 p2) env = pure none := by
  have key : ∀ l : Nat, (ts.filterMap fun
    | .Name id pos => if env.kindOf id == some .local && pos.line == l then some id else none
    | _ => none).length ≠ ts.length := by
    intro l
    refine Nat.ne_of_lt (filt_lt ?_)
    rw [List.any_eq_true] at h ⊢
    obtain ⟨t, ht, h⟩ := h
    refine ⟨t, ht, ?_⟩
    cases t with
    | Name x p =>
      have h : (!decide (env.scope.names.lookup x = some .local)) = true := h
      have e : (env.kindOf x == some NameKind.local) = false := by
        cases q : env.kindOf x == some NameKind.local with
        | false => rfl
        | true =>
          have := eq_of_beq q
          rw [show env.kindOf x = env.scope.names.lookup x from rfl] at this
          rw [this] at h; simp at h
      show (if (env.kindOf x == some NameKind.local && p.line == l) = true then some x else none).isNone = true
      rw [e]; rfl
    | _ => rfl
  unfold swappedStores
  dsimp only
  split
  · rfl
  split
  · rfl
  split
  · rfl
  · rename_i h3
    exfalso
    apply h3
    rw [Bool.or_eq_true]
    left
    exact bne_iff_ne.mpr (key _)
theorem swap_other {ts : List Expr} {kt : Nat} {pt : Pos} {e : Expr} {env : Env} (h : (match e with | .Tuple .. => true | _ => false) = false) : swappedStores [.Tuple ts kt pt] e env = pure none := by
  cases e <;> first | rfl | cases h
section
variable {g : Gs} {X : Cx} {C : CallF} {k : Nat} {W : WX} {sc : Scope} {sto : Str → Bool} {oa : Oa} {pos p : Pos}
theorem tupB_of (G : Good g X C k W oa sc sto) {ts : List Expr} {v : Expr} {kt : Nat} {pt : Pos} (h : tupOk sc ts v = true) : swappedStores [.Tuple ts kt pt] v X.env = pure none := by
  cases v with
  | Tuple vs k2 p2 =>
    have h : (vs.all (foldedForSure 8) || (!vs.any starB && decide (vs.length = ts.length) && ts.any fun t => match t with
      | .Name x _ => !isKind sc x .local
      | _ => true)) = true := h
    rw [Bool.or_eq_true] at h
    rcases h with h | h
    · exact swap_fold h
    · rw [Bool.and_eq_true] at h
      refine swap_cell ?_
      rw [G.sc]
      exact h.2
  | _ => exact swap_other rfl
theorem snd_app (G : Good g X C k W oa sc sto) {e a : Expr} {i : Nat} {me : ME} (h : appOk g sc e = some (i, a)) (ha : cv g fuelE sc a = some me) : PS X (.Expr e pos) (tS X.K (cnX X oa) W (ex C (.app i me))) := by
  unfold appOk at h
  split at h
  · rename_i o po m ap a0 pp
    split at h
    · rename_i hc
      simp only [Bool.and_eq_true, decide_eq_true_eq, Bool.not_eq_true'] at hc
      obtain ⟨⟨rfl, h2⟩, h3⟩ := hc
      cases e1 : slot g sc o with
      | none => rw [e1] at h; cases h
      | some j =>
        rw [e1] at h
        cases h
        have hv := slot_var (pos := po) G e1
        have st := star_cons (env := X.env) (es := []) h3
        exact s_app (o := a) (ps_expr (pe_bm PySem.F.plainAttrs_list PySem.F.slot_list_append PySem.F.type_list_append (fun pins s σ H x xs v us Q => mt_append pins s σ H x xs v us Q) hv (pa_cons (sndE G fuelE _ _ ha) pa_nil st) rfl (by rw [st]; rfl) h2 st rfl) rfl)
    · cases h
  · cases h
theorem allB_ok {q : Stmt → Option MS} : ∀ {l : List Stmt} {b : MB}, (∀ st ∈ l, ∀ ms, q st = some ms → PS X st (tS X.K (cnX X oa) W (ex C ms))) → allB q l = some b → PSs X l (tS X.K (cnX X oa) W (exs C b))
  | [], b, _, h => by cases h; exact s_snil
  | s :: r, b, hq, h => by
    unfold allB at h
    split at h
    · rename_i x y h1 h2
      cases h
      exact s_scons (hq s (by simp) x h1) (allB_ok (fun st hst => hq st (by simp [hst])) h2)
    · cases h
theorem exOk_ok (G : Good g X C k W oa sc sto) {e : Expr} {x : Str} (h : exOk g sc e = some x) : PS X (.Raise (some e) none pos) (tS X.K (cnX X oa) W (ex C (.rais x))) := by
  unfold exOk at h
  split at h
  · rename_i y py m j p1 p2
    split at h
    · rename_i hc
      rw [Bool.and_eq_true] at hc
      cases h
      obtain ⟨a, ok⟩ := gl_ok G hc.1
      obtain ⟨q1, q2, q3, q4⟩ := G.glb.exs _ hc.2
      exact s_rais G.calm G.tk PySem.F.excBase_ValueError q1 q2 q3 q4 a (okName_of ok).1
    · cases h
  · cases h
theorem sndS (S : GoodS g X C k W oa sc) : ∀ (n : Nat) (st : Stmt) (ms : MS), cvS g sc n st = some ms → PS X st (tS X.K (cnX X oa) W (ex C ms))
  | 0, st, ms, h => by unfold cvS at h; cases h
  | n + 1, st, ms, h => by
    have ih := sndS S n
    have G := S.G
    have he := sndE (oa := oa) G fuelE
    have ht := sndT (oa := oa) G fuelE
    have asgt : ∀ {ts : List Expr} {kt : Nat} {pt pos : Pos} {v : Expr} {ms : MS}, swappedStores [.Tuple ts kt pt] v X.env = pure none → compB v = false → (match cvtg g sc (fun _ => true) 5 (.Tuple ts kt pt), cv g fuelE sc v with
          | some t, some e => some (MS.asgt t e)
          | _, _ => none) = some ms → PS X (.Assign [.Tuple ts kt pt] v pos) (tS X.K (cnX X oa) W (ex C ms)) := by
      intro ts kt pt pos v ms hw hc h
      split at h
      · rename_i t e h1 h2
        cases h
        exact s_asgt (he _ _ h2) (snd_tg G h1).1 (sw_tup hc) hw rfl
      · cases h
    unfold cvS at h
    split at h
    · cases h; exact s_pass
    · rename_i e ps
      split at h
      · rename_i hd
        cases h
        unfold docB at hd
        split at hd
        · exact PS.weak ps_doc fun D σ H ⟨Z, F, ρ, Sk, q⟩ => q σ F H (Sub.refl F) Sk
        · cases hd
      · split at h
        · rename_i i a ha
          cases e1 : cv g fuelE sc a with
          | none => rw [e1] at h; cases h
          | some y => rw [e1] at h; cases h; exact snd_app G ha e1
        · split at h
          · cases h
          · rename_i hc
            cases e1 : cv g fuelE sc e with
            | none => rw [e1] at h; cases h
            | some y => rw [e1] at h; cases h; exact s_expr (he _ _ e1) (sw_no (by simpa using hc))
    · rename_i x px e ps
      split at h
      · rename_i i hi
        split at h
        · cases h
        · rename_i hk
          have hk : (isKind sc x .local || isKind sc x .cell) = true := by
            cases hh : (isKind sc x .local || isKind sc x .cell) with
            | true => rfl
            | false => rw [hh] at hk; exact absurd rfl hk
          split at h
          · rename_i hd
            split at h
            · cases h
              unfold eDict at hd
              split at hd
              · have hx : Loc X.env.scope x := by
                  rw [Bool.or_eq_true] at hk
                  rcases hk with hk | hk
                  · exact .inl (kind_ok G hk)
                  · exact .inr (kind_ok G hk)
                exact s_dnew rfl (ps_set (by rw [G.hN]; exact G.nd) (slot_ok G hi).1 hx MPS.pe_tnew rfl (G.fn x rfl))
              · cases hd
            · cases h
          · cases e1 : cv g fuelE sc e with
            | none => rw [e1] at h; cases h
            | some y => rw [e1] at h; cases h; exact snd_asg S hi hk e1
      · cases h
    · rename_i ts kt pt v ps
      split at h
      · rename_i vs k2 p2
        split at h
        · rename_i is es h1 h2
          cases h
          exact snd_par S h1 h2
        · split at h
          · rename_i hto
            exact asgt (tupB_of G hto) rfl h
          · cases h
      · rename_i hv
        split at h
        · cases h
        · rename_i hc
          refine asgt (swap_other ?_) (by simpa using hc) h
          cases v <;> first | rfl | (exfalso; exact hv _ _ _ rfl)
    · rename_i x px b tp e ps
      split at h
      · rename_i i hi
        have hv := slot_var (pos := px) G hi
        split at h
        · cases h
        · rename_i hc
          simp only [Bool.or_eq_true, not_or, Bool.not_eq_true] at hc
          split at h
          · split at h
            · rename_i y z h1 h2
              cases h
              exact s_dset rfl (lt1 G.units) hv (he _ _ h1) (he _ _ h2) (sw_no hc.1)
            · cases h
          · split at h
            · split at h
              · rename_i y z h1 h2
                cases h
                refine s_setix hv (he _ _ h1) (he _ _ h2) (ps_asg (he _ _ h2) (pg_sub hv (he _ _ h1) set_list ?_) (show swapsWithSole _ _ _ _ = _ by unfold swapsWithSole; exact sw_no hc.1) rfl rfl)
                intro v
                have hb := hc.2
                cases b <;> first | rfl | (cases hb; done)
              · cases h
            · cases h
      · cases h
    · cases h; exact s_retn
    · rename_i e ps
      split at h
      · rename_i i hi
        cases h
        exact s_retv (nameSlot_var G hi).1
      · cases e1 : cv g fuelE sc e with
        | none => rw [e1] at h; cases h
        | some y => rw [e1] at h; cases h; exact s_ret (he _ _ e1)
    · rename_i c a b ps
      split at h
      · rename_i x y z h1 h2 h3
        cases h
        exact s_iff (ht _ _ h1) (allB_ok (fun st _ => ih st) h2) (allB_ok (fun st _ => ih st) h3)
      · cases h
    · rename_i c b ps
      split at h
      · rename_i x y h1 h2
        cases h
        exact s_whil S.hp (ht _ _ h1) (allB_ok (fun st _ => ih st) h2) wfuel
      · cases h
    · rename_i tg it b ps
      split at h
      · rename_i t s y h1 h2 h3
        cases h
        obtain ⟨hi, hsb⟩ := snd_src (tg := tg) G he h2
        exact s_forr S.hp G.calm hi (snd_tg G h1).1 (allB_ok (fun st _ => ih st) h3) (folded_of hsb)
      · cases h
    · rename_i e ps
      split at h
      · rename_i x hx
        cases h
        exact exOk_ok G hx
      · cases h
        exact s_never
    · cases h
      exact s_never
    · cases h
theorem sndD (S : GoodS g X C k W oa sc) {body : List Stmt} {b : MB} (h : cvD g sc body = some b) : PSs X body (tS X.K (cnX X oa) W (exs C b)) := allB_ok (fun st _ => sndS S 30 st) h
end
end MP

end
section
set_option linter.all false
set_option Elab.async false
set_option maxRecDepth 100000
set_option maxHeartbeats 4000000
/-! The def that tells an error's names: its reading, and that it is right. -/
namespace MP
open PySem PySem.Spec PyProof.Rows L2 L2H MPH
/-- a name of that def -/
def hslot (N : List Str) (sc : Scope) (x : Str) : Option Nat := if decide (sc.names.lookup x = some .local) && okName x then idx x N 0 else none
def hcall (N cls : List Str) (sc : Scope) (f e c : Str) : Option ME := if gl sc f && decide (f = ("isinstance" : Str)) && decide (hslot N sc e = some 0) && gl sc c && cls.contains c then some (.isx c) else none
def cvH (N cls : List Str) (sc : Scope) : Nat → Expr → Option ME
  | 0, _ => none
  | n + 1, e => match e with
    | .Name x _ => (match hslot N sc x with
      | some (i + 1) => some (.var (i + 1))
      | _ => none)
    | .Constant (.str s) _ _ => some (.con (.str s))
    | .List es _ => if decide (es.length ≤ 1000) && !es.any starB then (mapE (cvH N cls sc n) es).map .lst else none
    | .BinOp a .Add b _ => (match cvH N cls sc n a, cvH N cls sc n b with
      | some x, some y => some (.bin .add x y)
      | _, _ => none)
    | .Call (.Name f _) [.Name e _, .Name c _] [] _ => hcall N cls sc f e c
    | .Call (.Attribute (.Constant (.str s) _ _) m ap) [a] [] p => if decide (m = ("join" : Str)) && (ap.endLine == p.line) && !starB a then (cvH N cls sc n a).map fun y => .bi .join (.cons (.con (.str s)) (.cons y .nil)) else none
    | .Call (.Attribute (.Name x px) m ap) [.Constant (.str s) _ _] [] p => if decide (m = ("split" : Str)) && (ap.endLine == p.line) then (cvH N cls sc n (.Name x px)).map fun y => .bi .split (.cons y (.cons (.con (.str s)) .nil)) else none
    | .ListComp (.Name w _) [⟨.Tuple [.Name w1 _, .Name g1 _] _ _, .Call (.Name z _) [a, b] [] _, [.Name g2 _], 0⟩] scope _ =>
      if decide (w = ("word" : Str)) && decide (w1 = ("word" : Str)) && decide (g1 = ("good" : Str)) && decide (g2 = ("good" : Str)) && decide (z = ("zip" : Str)) && gl sc z && hselSc scope && !starB a && !starB b then (match cvH N cls sc n a, cvH N cls sc n b with
        | some x, some y => some (.hsel x y)
        | _, _ => none) else none
    | _ => none
def cvHS (N cls : List Str) (sc : Scope) : Stmt → Option MS
  | .Assign [.Name x _] e _ => (match hslot N sc x with
    | some (i + 1) => if compB e then none else (cvH N cls sc 30 e).map (.asg (i + 1) false)
    | _ => none)
  | .Return (some e) _ => (cvH N cls sc 30 e).map .ret
  | _ => none
def cvHD (N cls : List Str) (sc : Scope) (body : List Stmt) : Option MB := allB (cvHS N cls sc) body
structure GoodH (N cls : List Str) (X : Cx) (C : CallF) (oa : Oa) (sc : Scope) (xe : Str) (a : Addr) (oe : Obj) : Prop where
  hN : X.N = N
  nd : N.Nodup
  sc : X.env.scope = sc
  fn : ∀ y, X.fn y = true
  own : oa.own = some a
  pn : (a, oe) ∈ X.pn
  hot : X.A.handled = some (.ref a)
  ec : ExcC X.K (He.ga X.K xe)
  hz : Zc (.ref (He.ga X.K xe)) none oe
  hf : ∃ ws, oe.data = .fields ws ∧ ws[2]? = some .none
  mi : X.mg "isinstance" = none
  mz : X.mg "zip" = none
  cls : ∀ c, cls.contains c = true → ∃ v cv, ((X.mg c = some cv) ∨ (X.mg c = none ∧ bootBuiltins c = some cv)) ∧ RelV v cv ∧ (∀ u, RelV v u → u = cv) ∧ PySem.W.kitOne X.K (.ref (He.ga X.K xe)) cv = some (isSub xe c)
  hC : ∀ c, C c [] [] = .ok (.v (.bl (isSub xe c)), [])
section
variable {N cls : List Str} {X : Cx} {C : CallF} {oa : Oa} {sc : Scope} {xe : Str} {a : Addr} {oe : Obj} {W : WX}
theorem hslot_ok (G : GoodH N cls X C oa sc xe a oe) {x : Str} {i : Nat} (h : hslot N sc x = some i) : X.N[i]? = some x ∧ X.env.scope.names.lookup x = some .local ∧ okName x = true := by
  unfold hslot at h
  split at h
  · rename_i hc
    rw [Bool.and_eq_true] at hc
    obtain ⟨j, e1, e2⟩ := idx_at h
    refine ⟨by rw [G.hN, e1, Nat.zero_add]; exact e2, ?_, hc.2⟩
    rw [G.sc]
    exact of_decide_eq_true hc.1
  · cases h
theorem hslot_var (G : GoodH N cls X C oa sc xe a oe) {x : Str} {i : Nat} {pos : Pos} (h : hslot N sc x = some i) : PE X (.Name x pos) (tVar i) := by
  obtain ⟨h1, h2, h3⟩ := hslot_ok G h
  obtain ⟨n1, n2, _⟩ := okName_of h3
  exact pe_var h1 (.inl h2) n1 n2
theorem hgl_ok (G : GoodH N cls X C oa sc xe a oe) {x : Str} (h : gl sc x = true) : Gl X x ∧ okName x = true := by
  unfold gl at h
  rw [Bool.and_eq_true] at h
  refine ⟨?_, h.2⟩
  have hg := h.1
  unfold isGlob at hg
  split at hg
  · rename_i e
    show X.env.scope.names.lookup x = _
    rw [G.sc]; exact e
  · cases hg
theorem hcall_ok (G : GoodH N cls X C oa sc xe a oe) {f e c : Str} {pf pe pc pos : Pos} {me : ME} (h : hcall N cls sc f e c = some me) : PE X (.Call (.Name f pf) [.Name e pe, .Name c pc] [] pos) (tE X.K (cnX X oa) W (ev C me)) := by
  unfold hcall at h
  split at h
  · rename_i hc
    simp only [Bool.and_eq_true, decide_eq_true_eq] at hc
    obtain ⟨⟨⟨⟨h1, rfl⟩, h3⟩, h4⟩, h5⟩ := hc
    cases h
    obtain ⟨g1, _⟩ := hgl_ok G h1
    obtain ⟨g2, ok⟩ := hgl_ok G h4
    obtain ⟨d1, _, d3⟩ := okName_of ok
    obtain ⟨v, cv, hm, r, hu, hk⟩ := G.cls c h5
    obtain ⟨ws, hw, _⟩ := G.hf
    have pc' : PE X (.Name c pc) (tC v) := by
      rcases hm with hm | ⟨hm, hb⟩
      · exact pe_glob g2 hm r d1
      · exact pe_bltn g2 hm hb r d3 d1
    exact s_isx g1 G.mi (hslot_var G h3) pc' hu hk G.own G.ec G.pn G.hz ⟨ws, hw⟩ (G.hC c)
  · cases h
theorem hargs (G : GoodH N cls X C oa sc xe a oe) {rec : Expr → Option ME} (hr : ∀ e me, rec e = some me → PE X e (tE X.K (cnX X oa) W (ev C me))) : ∀ {es : List Expr} {ms : MEs}, mapE rec es = some ms → es.any starB = false → PA X es (tA X.K (cnX X oa) W (evs C ms))
  | [], ms, h, _ => by cases h; exact s_nil
  | e :: es, ms, h, hs => by
    rw [List.any_cons, Bool.or_eq_false_iff] at hs
    unfold mapE at h
    split at h
    · rename_i x y h1 h2
      cases h
      exact s_cons (hr e x h1) (hargs G hr h2 hs.2) (star_cons hs.1)
    · cases h
theorem sndH (G : GoodH N cls X C oa sc xe a oe) : ∀ (n : Nat) (e : Expr) (me : ME), cvH N cls sc n e = some me → PE X e (tE X.K (cnX X oa) W (ev C me))
  | 0, _, _, h => by unfold cvH at h; cases h
  | n + 1, e, me, h => by
    have ih := sndH G n
    unfold cvH at h
    split at h
    · split at h
      · rename_i hi
        cases h
        exact s_var (hslot_var G hi)
      · cases h
    · cases h
      exact s_con pe_str fun _ => .str _
    · split at h
      · rename_i hc
        rw [Bool.and_eq_true, decide_eq_true_eq, Bool.not_eq_true'] at hc
        rename_i es ps
        cases e1 : mapE (cvH N cls sc n) es with
        | none => rw [e1] at h; cases h
        | some ms =>
          rw [e1] at h
          cases h
          exact s_lst hc.1 (hargs G ih e1 hc.2) (mapE_len e1)
      · cases h
    · split at h
      · rename_i h1 h2
        cases h
        exact s_bin (o := .add) (ih _ _ h1) (ih _ _ h2)
      · cases h
    · exact hcall_ok G h
    · split at h
      · rename_i s _ _ m ap b p hc
        simp only [Bool.and_eq_true, decide_eq_true_eq, Bool.not_eq_true'] at hc
        obtain ⟨⟨rfl, h2⟩, h3⟩ := hc
        cases e1 : cvH N cls sc n b with
        | none => rw [e1] at h; cases h
        | some y =>
          rw [e1] at h
          cases h
          exact s_join (ih _ _ e1) (star_cons h3) h2
      · cases h
    · split at h
      · rename_i x px m ap s _ _ p hc
        simp only [Bool.and_eq_true, decide_eq_true_eq, Bool.not_eq_true'] at hc
        obtain ⟨rfl, h2⟩ := hc
        cases e1 : cvH N cls sc n (.Name x px) with
        | none => rw [e1] at h; cases h
        | some y =>
          rw [e1] at h
          cases h
          exact s_split (ih _ _ e1) rfl h2
      · cases h
    · split at h
      · rename_i hc
        simp only [Bool.and_eq_true, decide_eq_true_eq, Bool.not_eq_true'] at hc
        obtain ⟨⟨⟨⟨⟨⟨⟨⟨rfl, rfl⟩, rfl⟩, rfl⟩, rfl⟩, h6⟩, h7⟩, h8⟩, h9⟩ := hc
        split at h
        · rename_i h1 h2
          cases h
          obtain ⟨ws, hw, hc⟩ := G.hf
          exact s_hsel h7 (hgl_ok G h6).1 G.mz G.hot G.pn hw hc (ih _ _ h1) (ih _ _ h2) (star_cons h8) (star_cons h9)
        · cases h
      · cases h
    · cases h
theorem sndHS (G : GoodH N cls X C oa sc xe a oe) (st : Stmt) (ms : MS) (h : cvHS N cls sc st = some ms) : PS X st (tS X.K (cnX X oa) W (ex C ms)) := by
  have nd : X.N.Nodup := by rw [G.hN]; exact G.nd
  unfold cvHS at h
  split at h
  · split at h
    · rename_i x _ e _ _ i hi
      split at h
      · cases h
      · rename_i hc
        cases e1 : cvH N cls sc 30 e with
        | none => rw [e1] at h; cases h
        | some y =>
          rw [e1] at h
          cases h
          obtain ⟨g1, g2, g3⟩ := hslot_ok G hi
          exact s_asg (ps_set nd g1 (.inl g2) (sndH G 30 _ _ e1) (sw_no (by simpa using hc)) (.inl (G.fn x)))
    · cases h
  · rename_i e _
    cases e1 : cvH N cls sc 30 e with
    | none => rw [e1] at h; cases h
    | some y =>
      rw [e1] at h
      cases h
      exact s_ret (sndH G 30 _ _ e1)
  · cases h
theorem sndHD (G : GoodH N cls X C oa sc xe a oe) {body : List Stmt} {b : MB} (h : cvHD N cls sc body = some b) : PSs X body (tS X.K (cnX X oa) W (exs C b)) := allB_ok (fun st _ ms => sndHS G st ms) h
end
end MP

end
section
set_option linter.all false
set_option Elab.async false
set_option maxRecDepth 100000
set_option maxHeartbeats 4000000
/-! The state at a def's start and end. -/
namespace MP
open PySem PySem.Spec PyProof.Rows L2
theorem app_cases {α : Type} {a b c : List α} {j : Nat} {s : α} (h : (a ++ b ++ c)[j]? = some s) : a[j]? = some s ∨ (∃ i, j = a.length + i ∧ b[i]? = some s) ∨ ∃ i, j = a.length + b.length + i ∧ c[i]? = some s := by
  by_cases h1 : j < a.length
  · left
    rw [List.getElem?_append_left (by rw [List.length_append]; omega), List.getElem?_append_left h1] at h
    exact h
  · by_cases h2 : j < a.length + b.length
    · right; left
      rw [List.getElem?_append_left (by rw [List.length_append]; omega), List.getElem?_append_right (by omega)] at h
      exact ⟨j - a.length, by omega, h⟩
    · right; right
      rw [List.getElem?_append_right (by rw [List.length_append]; omega), List.length_append] at h
      exact ⟨j - (a.length + b.length), by omega, h⟩
theorem app_l {α : Type} {a b c : List α} {j : Nat} {s : α} (h : a[j]? = some s) : (a ++ b ++ c)[j]? = some s := by
  have := (List.getElem?_eq_some_iff.mp h).1
  rw [List.getElem?_append_left (by rw [List.length_append]; omega), List.getElem?_append_left this]
  exact h
theorem app_m {α : Type} {a b c : List α} {j : Nat} {s : α} (h : b[j]? = some s) : (a ++ b ++ c)[a.length + j]? = some s := by
  have := (List.getElem?_eq_some_iff.mp h).1
  rw [List.getElem?_append_left (by rw [List.length_append]; omega), List.getElem?_append_right (by omega)]
  rw [show a.length + j - a.length = j from by omega]
  exact h
theorem Sok.ext {K : PySem.W.Frag} {cn cn' : Program × World × Oa} {Z F H : Hp} {σ : L2.St} {ρ : En} {vs : List V} {ds : List D} {m : Nat} (S : Sok K cn Z F H σ ρ) (hc : cn'.1 = cn.1) (hc2 : cn'.2.1 = cn.2.1) (hp : ∀ a, cn'.2.2.own = some a → σ[0]? = some (some (.ref a))) (ht : cn'.2.2.ts = cn.2.2.ts) (r : RpL K F vs ds) :
    Sok K cn' Z F H (σ ++ vs.map some ++ List.replicate m none) (ρ ++ ds.map .fz ++ List.replicate m .un) := by
  have cut : ∀ {j : Nat} {s : Sl}, (ρ ++ ds.map Sl.fz ++ List.replicate m .un)[j]? = some s → ρ[j]? = some s ∨ (∃ i d, j = ρ.length + i ∧ ds[i]? = some d ∧ s = .fz d) ∨ s = .un := fun {j s} h => by
    rcases app_cases h with h | ⟨i, e, h⟩ | ⟨i, e, h⟩
    · exact .inl h
    · rw [List.getElem?_map] at h
      cases e2 : ds[i]? with
      | none => rw [e2] at h; cases h
      | some d => rw [e2] at h; exact .inr (.inl ⟨i, d, e, e2, (Option.some.inj h).symm⟩)
    · rw [List.getElem?_replicate] at h
      split at h
      · exact .inr (.inr (Option.some.inj h).symm)
      · cases h
  have own : ∀ {j : Nat} {q : Addr}, OwnAt (σ ++ vs.map some ++ List.replicate m none) (ρ ++ ds.map Sl.fz ++ List.replicate m .un) j q → OwnAt σ ρ j q := fun {j q} ho => by
    obtain ⟨g1, g2⟩ := ho
    have key : ∀ {s : Sl}, ((∃ x, s = .ow x) ∨ ∃ x, s = .od x) → (ρ ++ ds.map Sl.fz ++ List.replicate m .un)[j]? = some s → ρ[j]? = some s := fun {s} hs h => by
      rcases cut h with h | ⟨_, _, _, _, h⟩ | h
      · exact h
      · rcases hs with ⟨x, e⟩ | ⟨x, e⟩ <;> rw [e] at h <;> cases h
      · rcases hs with ⟨x, e⟩ | ⟨x, e⟩ <;> rw [e] at h <;> cases h
    have back : (∃ s, ρ[j]? = some s) → σ[j]? = some (some (.ref q)) := fun ⟨s, hs⟩ => by
      have hl := (List.getElem?_eq_some_iff.mp hs).1
      rw [List.getElem?_append_left (by rw [List.length_append, S.len]; omega), List.getElem?_append_left (by rw [S.len]; exact hl)] at g1
      exact g1
    rcases g2 with ⟨x, g2⟩ | ⟨x, g2⟩
    · have := key (.inl ⟨x, rfl⟩) g2; exact ⟨back ⟨_, this⟩, .inl ⟨x, this⟩⟩
    · have := key (.inr ⟨x, rfl⟩) g2; exact ⟨back ⟨_, this⟩, .inr ⟨x, this⟩⟩
  exact {
    tb := fun t h => S.tb t (by rw [← ht]; exact h)
    fh := S.fh
    zh := S.zh
    zf := S.zf
    zt := S.zt
    len := by simp [S.len, r.length]
    fz := fun j d h => by
      rcases cut h with h | ⟨i, d', e, h, hs⟩ | h
      · obtain ⟨v, e1, r1⟩ := S.fz j d h; exact ⟨v, app_l e1, r1⟩
      · cases hs
        obtain ⟨v, e1, r1⟩ := r.get h
        refine ⟨v, ?_, r1⟩
        rw [e, ← S.len]
        exact app_m (by rw [List.getElem?_map, e1]; rfl)
      · cases h
    ow := fun j ds' h => by
      rcases cut h with h | ⟨i, d', e, h, hs⟩ | h
      · obtain ⟨a, xs, e1, r1⟩ := S.ow j ds' h; exact ⟨a, xs, app_l e1, r1⟩
      · cases hs
      · cases h
    od := fun j ds' h => by
      rcases cut h with h | ⟨i, d', e, h, hs⟩ | h
      · obtain ⟨a, xs, e1, r1⟩ := S.od j ds' h; rw [hc, hc2]; exact ⟨a, xs, app_l e1, r1⟩
      · cases hs
      · cases h
    dj := fun j l q hj hl => S.dj j l q (own hj) (own hl)
    p0 := fun a h => app_l (hp a h) }
/-- the state of which only the first list counts -/
theorem Sok.one {K : PySem.W.Frag} {cn cn' : Program × World × Oa} {Z F H : Hp} {σ : L2.St} {ρ : En} {a : Addr} {ys : List D} (S : Sok K cn Z F H σ ρ) (hc : cn'.1 = cn.1) (hc2 : cn'.2.1 = cn.2.1) (h3 : cn'.2.2.own = none) (ht : cn'.2.2.ts = cn.2.2.ts) (h0 : σ[0]? = some (some (.ref a))) (hy : ρ[0]? = some (.ow ys)) :
    Sok K cn' Z F H [some (.ref a)] [.ow ys] where
  tb := fun t h => S.tb t (by rw [← ht]; exact h)
  fh := S.fh
  zh := S.zh
  zf := S.zf
  zt := S.zt
  len := rfl
  fz := fun i d h => by
    cases i with
    | zero => simp at h
    | succ i => simp at h
  ow := fun i d h => by
    cases i with
    | zero =>
      simp at h; subst h
      obtain ⟨b, xs, e1, r1⟩ := S.ow 0 ys hy
      rw [h0] at e1; cases e1
      exact ⟨a, xs, rfl, r1⟩
    | succ i => simp at h
  od := fun i d h => by
    cases i with
    | zero => simp at h
    | succ i => simp at h
  dj := fun i j b h g => by
    cases i with
    | succ i => obtain ⟨h, _⟩ := h; simp at h
    | zero =>
      cases j with
      | succ j => obtain ⟨h, _⟩ := g; simp at h
      | zero => rfl
  p0 := fun b h => by rw [h3] at h; cases h
theorem Sok.nil {K : PySem.W.Frag} {cn cn' : Program × World × Oa} {Z F H : Hp} {σ : L2.St} {ρ : En} (S : Sok K cn Z F H σ ρ) (h3 : cn'.2.2.own = none) (ht : cn'.2.2.ts = cn.2.2.ts) : Sok K cn' Z F H [] [] where
  tb := fun t h => S.tb t (by rw [← ht]; exact h)
  fh := S.fh
  zh := S.zh
  zf := S.zf
  zt := S.zt
  len := rfl
  fz := fun i d h => by simp at h
  ow := fun i d h => by simp at h
  od := fun i d h => by simp at h
  dj := fun i j b h g => by obtain ⟨h, _⟩ := h; simp at h
  p0 := fun b h => by rw [h3] at h; cases h
theorem RR.one {K : PySem.W.Frag} {Z F H : Hp} {σ : L2.St} {ρ : En} {a : Addr} {ys : List D} {v : V} {r : R} (h : RR K Z F H σ ρ v r) (h0 : σ[0]? = some (some (.ref a))) (hy : ρ[0]? = some (.ow ys)) : RR K Z F H [some (.ref a)] [.ow ys] v r := by
  cases r with
  | v d => exact h
  | o ds =>
    obtain ⟨b, xs, e, h1, h2, h3, h4, h5⟩ := h
    refine ⟨b, xs, e, h1, h2, h3, h4, fun i o => ?_⟩
    obtain ⟨g1, _⟩ := o
    cases i with
    | zero =>
      simp at g1; subst g1
      exact h5 0 ⟨h0, .inl ⟨ys, hy⟩⟩
    | succ i => simp at g1
theorem RR.nil {K : PySem.W.Frag} {Z F H : Hp} {σ : L2.St} {ρ : En} {v : V} {r : R} (h : RR K Z F H σ ρ v r) : RR K Z F H [] [] v r := by
  cases r with
  | v d => exact h
  | o ds =>
    obtain ⟨b, xs, e, h1, h2, h3, h4, h5⟩ := h
    exact ⟨b, xs, e, h1, h2, h3, h4, fun i o => by obtain ⟨g1, _⟩ := o; simp at g1⟩
end MP

end
section
set_option linter.all false
set_option Elab.async false
set_option maxRecDepth 100000
set_option maxHeartbeats 4000000
/-! The two defs that tell errors, of the program. -/
namespace MP
open PySem PySem.Spec PyProof.Rows L2 L2H MPH
/-- what is known of the classes -/
structure HotFacts (K : PySem.W.Frag) (mg : Str → Option Value) (cls cs : List Str) : Prop where
  mi : mg "isinstance" = none
  mz : mg "zip" = none
  ec : ∀ x ∈ cs, ExcC K (He.ga K x)
  cl : ∀ x ∈ cs, ∀ c, cls.contains c = true → ∃ v cv, ((mg c = some cv) ∨ (mg c = none ∧ bootBuiltins c = some cv)) ∧ RelV v cv ∧ (∀ u, RelV v u → u = cv) ∧ PySem.W.kitOne K (.ref (He.ga K x)) cv = some (isSub x c)
theorem takesF {X : Cx} : L2N.Takes X (fun _ _ _ _ => False) := takesN0
section
variable {P : Program} {w : World} {K : PySem.W.Frag} {mg : Str → Option Value} {base : Heap} {f : Addr} {name qual : Str} {params : Arguments} {body : List Stmt} {scope : Scope} {dV kV doc pm cdv ct oc : Value} {an od : Option Addr}
    {osl : Array (Option Value)} {N cls cs : List Str} {e0 : Str} {m : MF}
theorem names_run (lk : K.lookup f = some ⟨oc, od, .func (PySem.W.fnOf name qual params body scope dV kV doc pm an cdv ct), osl⟩) (hcd : PySem.W.codeIn K cdv qual = true) (S : FnScope N [e0] scope)
    (hm : m.hot = cs) (hns : m.ns = N.length) (hb : cvHD N cls scope body = some m.body) (HF : HotFacts K mg cls cs) (C : CallF) (oa : Oa) :
    HotRun P w K mg base 1 f (PySem.W.fnOf name qual params body scope dV kV doc pm an cdv ct) [e0] (spH K (P, w, oa) cs fun xs ds => run C m xs ds) := by
  refine hot_run lk hcd S rfl fun A outer s H vs Q p x hot hz hv hr hsp => ?_
  subst hv
  obtain ⟨hx, Z, F, S0, q⟩ := hsp
  have hN0 : 0 < N.length := by
    have := congrArg List.length S.pre
    rw [List.length_take] at this
    simp at this
    omega
  have G : GoodH N cls (cxH C8.CX0 P w K mg base N qual scope f cdv A outer s H C8.E0 p) (hotC C x) ⟨some p.1, oa.ts⟩ scope x p.1 p.2 := {
    hN := rfl
    nd := S.nd
    sc := rfl
    fn := fun _ => rfl
    own := rfl
    pn := by show p ∈ [p]; simp
    hot := hot.1
    ec := HF.ec x hx
    hz := hz
    hf := hot.2
    mi := HF.mi
    mz := HF.mz
    cls := HF.cl x hx
    hC := fun c => rfl }
  have hmem : m.hot.contains x = true := by rw [hm]; simpa using hx
  have hne : (!m.hot.isEmpty) = true := by
    cases e : m.hot with
    | nil => rw [e] at hmem; cases hmem
    | cons a b => rfl
  refine ⟨_, sndHD (W := fun _ _ _ _ => False) G hb, Z, F, List.replicate N.length .un, ?_, ?_⟩
  · exact {
      tb := S0.tb
      fh := S0.fh
      zh := S0.zh
      zf := S0.zf
      zt := S0.zt
      len := by
        show (L2.start N [V.ref p.1]).length = _
        unfold L2.start
        simp
        omega
      fz := fun i d h => by
        rw [List.getElem?_replicate] at h
        split at h <;> cases h
      ow := fun i d h => by
        rw [List.getElem?_replicate] at h
        split at h <;> cases h
      od := fun i d h => by
        rw [List.getElem?_replicate] at h
        split at h <;> cases h
      dj := fun i j a h => by
        obtain ⟨_, ⟨ds, h⟩ | ⟨ds, h⟩⟩ := h
        · rw [List.getElem?_replicate] at h
          split at h <;> cases h
        · rw [List.getElem?_replicate] at h
          split at h <;> cases h
      p0 := fun a h => by
        cases h
        rfl }
  · dsimp only at q
    unfold run at q
    rw [if_pos hne] at q
    dsimp only at q
    rw [if_neg (show ¬ (!m.hot.contains x) = true by rw [hmem]; simp), hns] at q
    cases e : exs (hotC C x) m.body (List.replicate N.length .un) with
    | bad => rw [e] at q; exact q.elim
    | err ex => rw [e] at q; exact q.elim
    | ok pr =>
      obtain ⟨fl, ρ'⟩ := pr
      rw [e] at q
      split at q
      · rename_i r ys e1
        split at e1
        · rename_i s1 ρ1 e2
          cases e1
          cases e2
          exact fun v σ' F' H' s' S' rr => q v F' H' s' (S'.nil rfl rfl) rr
        · cases e1
      · exact q.elim
theorem names_call {T : Tab} {nf : Str} (hT : T nf = some m) (lk : K.lookup f = some ⟨oc, od, .func (PySem.W.fnOf name qual params body scope dV kV doc pm an cdv ct), osl⟩) (hcd : PySem.W.codeIn K cdv qual = true) (S : FnScope N [e0] scope)
    (hm : m.hot = cs) (hns : m.ns = N.length) (hb : cvHD N cls scope body = some m.body) (HF : HotFacts K mg cls cs) (k : Nat) (oa : Oa) :
    HotRun P w K mg base 1 f (PySem.W.fnOf name qual params body scope dV kV doc pm an cdv ct) [e0] (spH K (P, w, oa) cs (call T k nf)) := by
  cases k with
  | zero =>
    intro A outer s H args us vs Q p x _ _ _ _ _ _ _ _ hsp
    obtain ⟨_, _, _, _, q⟩ := hsp
    exact q.elim
  | succ k =>
    have e : (fun xs ds => run (call T k) m xs ds) = call T (k + 1) nf := by
      funext xs ds
      show _ = (match T nf with | some m => run (call T k) m xs ds | none => .bad)
      rw [hT]
    have := names_run (P := P) (w := w) (base := base) lk hcd S hm hns hb HF (call T k) oa
    rw [e] at this
    exact this
theorem names_in {T : Tab} {nf : Str} (hT : T nf = some m) (hm : m.hot = cs) (hc : cs ≠ []) (k : Nat) : ∀ x r, call T k nf [] [.str x] = .ok r → x ∈ cs := by
  intro x r h
  cases k with
  | zero => cases h
  | succ k =>
    have h : (match T nf with | some m => run (call T k) m [] [.str x] | none => .bad) = .ok r := h
    rw [hT] at h
    dsimp only at h
    unfold run at h
    have hne : (!m.hot.isEmpty) = true := by
      rw [hm]
      cases cs with
      | nil => exact absurd rfl hc
      | cons a b => rfl
    rw [if_pos hne] at h
    dsimp only at h
    split at h
    · cases h
    · rename_i q
      rw [hm] at q
      simpa using q
end
/-- the def that tells errors: its text -/
def errB (N : List Str) (sg : Scope) (nf : Str) (body : List Stmt) : Option Str := match body with
  | [.Try [.Expr (.Call (.Name a _) [] [] _) _] [.ExceptHandler (some (.Name ec _)) (some n) [.Return (some (.Call (.Name fn _) [.Name n2 _] [] _)) _] _] [] [] _, .Return (some (.Constant (.str r) _ _)) _] =>
    if decide (n = n2) && decide (N[0]? = some a) && decide (N[1]? = some n) && decide (sg.names.lookup n = some .local) && decide (sg.names.lookup ec = some .globalImplicit) && decide (sg.names.lookup fn = some .globalImplicit) && okName ec && okName fn && okName n && okName a && decide (fn = nf) && decide (r = ⟨#[]⟩) && decide (sg.names.lookup a = some .local) then some ec else none
  | _ => none
section
variable {P : Program} {w : World} {K : PySem.W.Frag} {mg : Str → Option Value} {base : Heap} {ef nf qf : Str} {params pf : Arguments} {body bf : List Stmt} {sg sf : Scope} {dV kV doc pm cdv ct oc dVf kVf docf pmf cdf ctf ocf : Value} {an od anf odf : Option Addr}
    {osl oslf : Array (Option Value)} {Ng N cls cs : List Str} {a e0 : Str} {m : MF} {T : Tab} {ec : Str}
theorem err_ok (hB : errB Ng sg nf body = some ec) (nd : Ng.Nodup) (h0 : Ng[0]? = some a) (mec : mg ec = some (.ref (He.ga K ec))) (mfn : mg nf = some (.ref (He.ga K nf))) (kfn : PySem.W.keepIn K (.ref (He.ga K nf)) = true)
    (mef : mg ef = some (.ref (He.ga K ef))) (kef : PySem.W.keepIn K (.ref (He.ga K ef)) = true)
    (hex : ∀ c ∈ cs, PySem.W.exmOne K (.ref (He.ga K c)) (.ref (He.ga K ec)) = some true) (hT : T nf = some m)
    (lk : K.lookup (He.ga K ef) = some ⟨oc, od, .func (PySem.W.fnOf ef ef params body sg dV kV doc pm an cdv ct), osl⟩) (hcd : PySem.W.codeIn K cdv ef = true) (hb : L2.Binds K (PySem.W.fnOf ef ef params body sg dV kV doc pm an cdv ct) [a] []) (Sg : FnScope Ng [a] sg)
    (lkf : K.lookup (He.ga K nf) = some ⟨ocf, odf, .func (PySem.W.fnOf nf qf pf bf sf dVf kVf docf pmf anf cdf ctf), oslf⟩) (hcf : PySem.W.codeIn K cdf qf = true) (Sf : FnScope N [e0] sf) (hbf : L2.Binds K (PySem.W.fnOf nf qf pf bf sf dVf kVf docf pmf anf cdf ctf) [e0] [])
    (hm : m.hot = cs) (hne : cs ≠ []) (hns : m.ns = N.length) (hcv : cvHD N cls sf bf = some m.body) (HF : HotFacts K mg cls cs) (k : Nat) (oa : Oa) :
    ∀ X : Cx, X.prog = P → X.w = w → X.K = K → X.mg = mg → X.base = base → ErrOk X (call T k) oa ef nf := by
  intro X e1 e2 e3 e4 e5
  subst e1 e2 e3 e4 e5
  unfold errB at hB
  split at hB
  · rename_i a1 p1 p2 p3 ec1 p4 n fn p5 n2 p6 p7 p8 p9 p10 r j p11 p12
    split at hB
    · rename_i hc
      simp only [Bool.and_eq_true, decide_eq_true_eq] at hc
      obtain ⟨⟨⟨⟨⟨⟨⟨⟨⟨⟨⟨⟨rfl, c2⟩, c3⟩, c4⟩, c5⟩, c6⟩, c7⟩, c8⟩, c9⟩, c10⟩, rfl⟩, rfl⟩, c13⟩ := hc
      cases hB
      rw [h0] at c2
      cases c2
      obtain ⟨d1, _, _⟩ := okName_of c7
      obtain ⟨d2, _, _⟩ := okName_of c8
      obtain ⟨d3, d4, _⟩ := okName_of c9
      obtain ⟨d5, d6, _⟩ := okName_of c10
      refine ⟨mef, kef, params, _, sg, dV, kV, doc, pm, cdv, ct, oc, an, od, osl, Ng, cs, a, lk, hcd, hb, Sg, h0, .inl c13, d5, d6, fun q X2 e1 e2 e3 e4 e5 => ?_, names_in hT hm hne k⟩
      have HR := names_call (P := X.prog) (w := X.w) (base := X.base) hT lkf hcf Sf hm hns hcv HF k oa
      obtain ⟨prog2, w2, K2, mg2, base2⟩ := X2
      dsimp only at e1 e2 e3 e4 e5
      subst e1 e2 e3 e4 e5
      exact err_gives nd h0 c3 c4 c5 c6 d1 d2 d3 d4 mec mfn kfn hex HR rfl hbf
    · cases hB
  · cases hB
end
end MP

end
section
set_option linter.all false
set_option Elab.async false
set_option maxRecDepth 100000
set_option maxHeartbeats 4000000
/-! A def keeps what the evaluator says of it. -/
namespace MP
open PySem PySem.Spec PyProof.Rows L2
theorem nodup_inj {α β : Type} {f : α → β} : ∀ {l : List α} {a b : α}, (l.map f).Nodup → a ∈ l → b ∈ l → f a = f b → a = b
  | [], _, _, _, h, _, _ => by cases h
  | x :: l, a, b, h, ha, hb, e => by
    rw [List.map_cons, List.nodup_cons] at h
    rcases List.mem_cons.mp ha with ea | ha2
    · rcases List.mem_cons.mp hb with eb | hb2
      · rw [ea, eb]
      · exact absurd (by rw [← ea, e]; exact List.mem_map.mpr ⟨b, hb2, rfl⟩) h.1
    · rcases List.mem_cons.mp hb with eb | hb2
      · exact absurd (by rw [← eb, ← e]; exact List.mem_map.mpr ⟨a, ha2, rfl⟩) h.1
      · exact nodup_inj h.2 ha2 hb2 e
/-- the two defs that tell errors, in the module -/
structure ErrS (T : Tab) (K : PySem.W.Frag) (mg : Str → Option Value) (ef nf : Str) : Prop where
  ex : ∃ (pe pf : Arguments) (be bf : List Stmt) (sg sf : Scope) (fde fdf : FuncData) (Ng N cls cs : List Str) (a e0 ec qf : Str) (m : MF),
    FunD K ef ef pe be sg [] [] (He.ga K ef) fde ∧ FunD K nf qf pf bf sf [] [] (He.ga K nf) fdf ∧ errB Ng sg nf be = some ec ∧ Ng[0]? = some a ∧ mg ec = some (.ref (He.ga K ec)) ∧ mg nf = some (.ref (He.ga K nf)) ∧ mg ef = some (.ref (He.ga K ef)) ∧
    (∀ c ∈ cs, PySem.W.exmOne K (.ref (He.ga K c)) (.ref (He.ga K ec)) = some true) ∧ T nf = some m ∧ L2.Binds K fde [a] [] ∧ FnScope Ng [a] sg ∧ FnScope N [e0] sf ∧ L2.Binds K fdf [e0] [] ∧ m.hot = cs ∧ cs ≠ [] ∧ m.ns = N.length ∧ cvHD N cls sf bf = some m.body ∧ HotFacts K mg cls cs
theorem ErrS.ok {T : Tab} {K : PySem.W.Frag} {mg : Str → Option Value} {ef nf : Str} (E : ErrS T K mg ef nf) (k : Nat) (oa : Oa) (X : Cx) (e3 : X.K = K := by rfl) (e4 : X.mg = mg := by rfl) : ErrOk X (call T k) oa ef nf := by
  obtain ⟨pe, pf, be, bf, sg, sf, fde, fdf, Ng, N, cls, cs, a, e0, ec, qf, m, Fe, Ff, h1, h2, h3, h4, h5, h6, h7, h8, h9, h10, h11, h12, h13, h14, h15, h16⟩ := E.ex
  have ke := Fe.kp
  have kf := Ff.kp
  obtain ⟨oc, od, dV, kV, doc, pm, an, cdv, ct, osl, rfl, lk, hcd, _, _⟩ := Fe.ex
  obtain ⟨oc2, od2, dV2, kV2, doc2, pm2, an2, cdv2, ct2, osl2, rfl, lk2, hcd2, _, _⟩ := Ff.ex
  exact err_ok (P := X.prog) (w := X.w) (base := X.base) h1 h9.nd h2 h3 h4 kf h5 ke h6 h7 lk hcd h8 h9 lk2 hcd2 h10 h11 h12 h13 h14 h15 h16 k oa X rfl rfl e3 e4 rfl
/-- what is known of the module, without a context -/
structure GlbS (g : Gs) (T : Tab) (K : PySem.W.Frag) (w : World) (mg : Str → Option Value) : Prop where
  con : ∀ x d, g.con.lookup x = some d → ∃ v u, mg x = some u ∧ RelV v u ∧ ∀ F : Hp, Rp K F v d
  tabs : ∀ x kvs, g.tabs.lookup x = some kvs → mg x = some (.ref (He.ga K x)) ∧ TabOk K w (He.ga K x) kvs
  free : ∀ x, g.free.contains x = true → mg x = none
  fns : ∀ x own, g.fns.lookup x = some own → ∃ m, T x = some m ∧ m.own = own ∧ m.hot = []
  exs : ∀ x, g.exs.contains x = true → PySem.W.excIn K (He.ga K x) He.veBase "ValueError.__new__" = true ∧ mg x = some (.ref (He.ga K x)) ∧ PySem.W.keepIn K (.ref (He.ga K x)) = true ∧
    PySem.W.subIn K (.ref (He.ga K x)) (.type "BaseException") = some true ∧ PySem.W.typeIn K (.ref (He.ga K x)) = some (.type "type")
  err : ∀ ef nf, g.err.lookup ef = some nf → ErrS T K mg ef nf
/-- a def of the table -/
def DefAt (T : Tab) (K : PySem.W.Frag) (w : World) (mg : Str → Option Value) (tf : List He.Defn) (x : Str) (m : MF) (fd : FuncData) (ps : List Str) : Prop :=
  ∃ (g : Gs) (sc : Scope) (params : Arguments) (body : List Stmt) (qual : Str), FunD K x qual params body sc [] [] (He.ga K x) fd ∧ mg x = some (.ref (He.ga K x)) ∧ Binds K fd ps [] ∧ FnScope g.N ps sc ∧ ps.length = m.np ∧ g.N.length = m.ns ∧
    (m.own = true → 0 < m.np) ∧ cvD g sc body = some m.body ∧ GlbS g T K w mg ∧ m.hot = [] ∧ (g.lam = true → (x, none) ∈ tf ∧ qual = x)
structure DefOk (T : Tab) (K : PySem.W.Frag) (w : World) (mg : Str → Option Value) (tf : List He.Defn) (x : Str) (m : MF) : Prop where
  ex : ∃ fd ps, DefAt T K w mg tf x m fd ps
theorem run_plain {C : CallF} {m : MF} {xs ds : List D} (h : m.hot = []) : run C m xs ds = if ds.length + (if m.own then 1 else 0) = m.np then (match exs C m.body (m.start xs ds) with
    | .ok (fl, env) => if m.own then (match get env 0 with
        | .ow ys => .ok ((match fl with | .nx => R.v .non | .rt r => r), ys)
        | _ => .bad) else .ok ((match fl with | .nx => R.v .non | .rt r => r), [])
    | .err e => if m.own then .bad else .err e
    | .bad => .bad) else .bad := by
  unfold run
  rw [h]
  rfl
theorem arity {T : Tab} {k : Nat} {x : Str} {m : MF} (hm : T x = some m) (hh : m.hot = []) : ∀ xs ds, call T k x xs ds ≠ .bad → ds.length + (if m.own then 1 else 0) = m.np := by
  intro xs ds h
  cases k with
  | zero => exact absurd rfl h
  | succ k =>
    by_cases e : ds.length + (if m.own then 1 else 0) = m.np
    · exact e
    · refine absurd ?_ h
      show (match T x with | some m => run (call T k) m xs ds | none => .bad) = _
      rw [hm]
      dsimp only
      rw [run_plain hh, if_neg e]
/-- the tables of the defs that make lambdas -/
def tsOf (K : PySem.W.Frag) (tf : List He.Defn) : List (Addr × Str) := tf.map fun p => ((He.cT K p).2, (p.1 ++ ".<locals>.") ++ "<lambda>")
theorem fnd_at {T : Tab} {P : Program} {w : World} {K : PySem.W.Frag} {mg : Str → Option Value} {tf : List He.Defn} {base : Heap} (hT : ∀ x m, T x = some m → m.hot = [] → DefOk T K w mg tf x m) (hTB : ∀ p ∈ tf, LamX.TabB base mg (He.cT K p).1 (He.cT K p).2)
    (hnd : (tf.map fun p => (He.cT K p).2).Nodup) : ∀ (k : Nat) (x : Str) (m : MF) (fd : FuncData) (ps : List Str), T x = some m → DefAt T K w mg tf x m fd ps →
    FnOk P w K mg base (L2N.CX P w) (3 * k) (He.ga K x) fd ps (spF K (P, w, ⟨none, tsOf K tf⟩) m.own m.np (call T k x))
  | 0, x, m, fd, ps, hm, ⟨g, sc, params, body, qual, F, hg, hb, hs, h1, h2, h3, h4, G, hh, hl⟩ => by
    have no : ∀ vs H Q E, ¬ spF K (P, w, ⟨none, tsOf K tf⟩) m.own m.np (call T 0 x) vs H Q E := fun vs H Q E ⟨Z, F, σ, ρ, xs, ds, vs', _, _, _, _, _, h⟩ => h
    exact ⟨fun vs H Q E h => absurd h (no _ _ _ _), fun A outer s H args us vs Q E hr h0 hb hv hsp => absurd hsp (no _ _ _ _)⟩
  | k + 1, x, m, fd, ps, hm, ⟨g, sc, params, body, qual, F, hg, hb, hs, h1, h2, h3, h4, G, hh, hlam⟩ => by
    obtain ⟨oc, od, dV, kV, doc, pm, an, cdv, ct, osl, rfl, lk, hcd, _, _⟩ := F.ex
    show FnOk P w K mg base (L2N.CX P w) (3 * k + 2 + 1) _ _ _ _
    refine fn_of lk hcd hs (fun vs H Q E ⟨Z, F, σ, ρ, xs, ds, vs', _, _, h, _⟩ => h.trans h1.symm) fun A outer s H vs Q E hr hsp => ?_
    obtain ⟨Z, F1, σ, ρ, xs, ds, vs', S, rd, hl, ho, hn, hsp⟩ := hsp
    have glb : ∀ oa : Option Addr, Glb g (cxOf (L2N.CX P w) P w K mg base g.N qual sc (He.ga K x) cdv A outer s H E) (call T k) (3 * k) ⟨oa, tsOf K tf⟩ := fun oa => {
      con := G.con
      tabs := G.tabs
      free := G.free
      fns := fun y own hy => by
        obtain ⟨m', e1, e2, e3⟩ := G.fns y own hy
        obtain ⟨fd', ps', dA⟩ := (hT y m' e1 e3).ex
        have q2 := fnd_at (P := P) (base := base) hT hTB hnd k y m' fd' ps' e1 dA
        obtain ⟨_, _, _, _, _, F', hg', hb', _, q1, _⟩ := dA
        subst e2
        exact ⟨m'.np, ⟨hg', F'.kp, ⟨fd', ps', q1, q2, hb'⟩, arity e1 e3⟩⟩
      err := fun ef nf h => (G.err ef nf h).ok k ⟨oa, tsOf K tf⟩ (cxOf (L2N.CX P w) P w K mg base g.N qual sc (He.ga K x) cdv A outer s H E)
      exs := fun y hy => by
        obtain ⟨q1, q2, q3, q4, q5⟩ := G.exs y hy
        exact ⟨q1, q2, q3, raises_own q4 q5⟩ }
    have good : ∀ oa : Option Addr, GoodS g (cxOf (L2N.CX P w) P w K mg base g.N qual sc (He.ga K x) cdv A outer s H E) (call T k) (3 * k) (fun cls d _ H => E cls d H) ⟨oa, tsOf K tf⟩ sc := fun oa => {
      G := {
        glb := glb oa
        hN := rfl
        nd := hs.nd
        sc := rfl
        calm := rfl
        tk := L2N.takes_of rfl rfl rfl rfl
        fn := fun _ _ => .inl rfl
        units := by have := hr.un; show (A.deeper _).units + 66 < _; omega
        room := hr.mono (Nat.le_add_right _ 2)
        lam := fun z => by
          rw [Bool.and_eq_true] at z
          obtain ⟨hin, rfl⟩ := hlam z.1
          obtain ⟨c, rfl⟩ := He.codeIn_ref hcd
          have ec : (He.cT K (qual, none)).1 = c := He.codeOf_eq (p := (qual, none)) lk rfl
          refine ⟨c, (He.cT K (qual, none)).2, ?_, rfl, List.mem_map.mpr ⟨(qual, none), hin, rfl⟩, fun t ht e => ?_, hr⟩
          · have := hTB _ hin
            rw [ec] at this
            exact this
          · obtain ⟨p, hp, rfl⟩ := List.mem_map.mp ht
            have := nodup_inj hnd hp hin e
            rw [this]
            rfl }
      bk := by
        show (if sc.kind.isAnnotationScope = true then ScopeKind.function else sc.kind) = _
        rw [hs.kind]; rfl
      hp := passes_of rfl }
    -- the start
    have hstart : ∃ oa, (m.own = true → ∃ a, oa = some a ∧ σ = [some (.ref a)] ∧ vs = .ref a :: vs') ∧ (m.own = false → oa = none ∧ σ = [] ∧ vs = vs') ∧ Sok K (P, w, ⟨oa, tsOf K tf⟩) Z F1 H (L2.start g.N vs) (m.start xs ds) := by
      cases hown : m.own with
      | true =>
        obtain ⟨a, e1, e2, e3⟩ := ho hown
        subst e1 e2 e3
        refine ⟨some a, fun _ => ⟨a, rfl, rfl, rfl⟩, fun h => (by cases h), ?_⟩
        have := S.ext (cn' := (P, w, ⟨some a, tsOf K tf⟩)) (m := g.N.length - (vs'.length + 1)) rfl rfl (fun b hb => by cases hb; rfl) rfl rd
        unfold L2.start MF.start
        rw [hown, if_pos rfl, ← h2]
        have e4 : m.np = vs'.length + 1 := hl.symm
        rw [e4]
        exact this
      | false =>
        obtain ⟨e1, e2, e3, e4⟩ := hn hown
        subst e1 e2 e3 e4
        refine ⟨none, fun h => (by cases h), fun _ => ⟨rfl, rfl, rfl⟩, ?_⟩
        have := S.ext (cn' := (P, w, ⟨none, tsOf K tf⟩)) (m := g.N.length - vs.length) rfl rfl (fun b hb => by cases hb) rfl rd
        unfold L2.start MF.start
        rw [hown, if_neg (by simp), ← h2]
        have e4 : m.np = vs.length := hl.symm
        rw [e4]
        exact this
    obtain ⟨oa, o1, o2, S0⟩ := hstart
    refine ⟨tS K (P, w, ⟨oa, tsOf K tf⟩) (fun cls d _ H => E cls d H) (exs (call T k) m.body), sndD (good oa) h4, Z, F1, m.start xs ds, S0, ?_⟩
    have hc : call T (k + 1) x xs ds = run (call T k) m xs ds := by
      show (match T x with | some m => run (call T k) m xs ds | none => .bad) = _
      rw [hm]
    rw [hc, run_plain hh] at hsp
    by_cases hlen : ds.length + (if m.own then 1 else 0) = m.np
    case neg => rw [if_neg hlen] at hsp; exact hsp.elim
    rw [if_pos hlen] at hsp
    cases e : exs (call T k) m.body (m.start xs ds) with
    | bad => rw [e] at hsp; exact hsp.elim
    | err ex =>
      rw [e] at hsp
      dsimp only at hsp
      cases hown : m.own with
      | true => rw [hown] at hsp; exact hsp.elim
      | false =>
        rw [hown] at hsp
        exact fun σ' => fun F' H' a1 a2 a3 a4 a5 => hsp.2 F' H' a1 a2 a3 a4 a5
    | ok pr =>
      obtain ⟨fl, ρ'⟩ := pr
      rw [e] at hsp
      dsimp only at hsp
      cases hown : m.own with
      | false =>
        rw [hown] at hsp
        obtain ⟨e1, e2, e3⟩ := o2 hown
        subst e1 e2 e3
        cases fl with
        | nx => exact fun σ' F' H' s' S' => hsp .non F' H' s' (S'.nil rfl rfl) .non
        | rt r => exact fun v σ' F' H' s' S' rr => hsp v F' H' s' (S'.nil rfl rfl) rr.nil
      | true =>
        rw [hown] at hsp
        obtain ⟨a, e1, e2, e3⟩ := o1 hown
        subst e1 e2 e3
        have key : ∀ {r : R}, (match (match get ρ' 0 with
            | .ow ys => Out.ok (r, ys)
            | _ => .bad) with
          | .ok (r, ys) => ∀ v F' H', Sub F1 F' → Sok K (P, w, ⟨none, tsOf K tf⟩) Z F' H' [some (.ref a)] (if true then [.ow ys] else []) → RR K Z F' H' [some (.ref a)] (if true then [.ow ys] else []) v r → Q v H'
          | .err e => true = false ∧ ∀ F' H', Sub F1 F' → Sub F' H' → Sub Z H' → (∀ a, Z a ≠ none → F' a = none) → (∀ t ∈ tsOf K tf, LamX.TabS H' t.1 t.2 ∧ F' t.1 = none) → E (.ref (He.ga K e.cls)) none H'
          | .bad => False) → ∀ v σ' F' H', Sub F1 F' → Sok K (P, w, ⟨some a, tsOf K tf⟩) Z F' H' σ' ρ' → RR K Z F' H' σ' ρ' v r → Q v H' := fun {r} h v σ' F' H' s' S' rr => by
          split at h
          · rename_i r2 ys e4
            split at e4
            · rename_i ys' e5
              cases e4
              have hy := get_some e5 (by intro h; cases h)
              have h0 := S'.p0 a rfl
              exact h v F' H' s' (S'.one rfl rfl rfl rfl h0 hy) (rr.one h0 hy)
            · cases e4
          · rename_i e4
            exact absurd h.1 (by simp)
          · exact h.elim
        cases fl with
        | nx => exact fun σ' F' H' s' S' => key hsp .non σ' F' H' s' S' .non
        | rt r => exact fun v σ' F' H' s' S' rr => key hsp v σ' F' H' s' S' rr
end MP

end
section
set_option linter.all false
set_option Elab.async false
set_option maxRecDepth 100000
set_option maxHeartbeats 4000000
/-! A law's end. -/
namespace MP
open PySem PySem.Spec PyProof.Rows L2
theorem walkX {l : PySem.W.OpenLaw} {n k : Nat} {q : Program} {loose : List Str} {XP : (Str → Option Value) → Heap → Prop} {YP : World → Heap → Prop} {d : DefRec} {x : Str}
    (hn : l.most = some n) (hn2 : n ≤ sizeLine) (hdf : d.params.defaults = []) (hr : Room k callerA)
    (F : ∀ (w : World) (mg : Str → Option Value) (fa : Addr) (h : Heap), YP w h → h.Ns mainGlobals mg → mg d.name = some (.ref fa) →
      ∃ (K : PySem.W.Frag) (fd : FuncData) (cs : List (Addr × Addr)) (sp : Sp), K.In h ∧ (∀ p ∈ cs, h.get? p.2 = some { cls := .none, data := .fields #[] }) ∧ (∀ p ∈ cs, K.lookup p.2 = none) ∧ (∀ p ∈ cs, PySem.W.CodeHd h p.1 p.2) ∧ (∀ (s : Shared) (u : Value), BindsTo s fd ⟨[u], []⟩ [(x, u)]) ∧
        (∀ (H : Hp) (a : Addr) (ns : List Int), ns.length ≤ n → (∀ z ∈ ns, Builtin.Int.intBits z ≤ 1048576) → (∀ p ∈ cs, H p.2 = some (.tbl #[])) → SqL K H a (ns.map V.int) → sp [.ref a] H (fun v _ => v = .bl true) fun _ _ _ => False) ∧
        ∀ base : Heap, K.In base → base.Ns mainGlobals mg → (∀ p ∈ cs, LamX.TabB base mg p.1 p.2) → FnOk l.prog w K mg base (L2N.CX l.prog w) k fa fd [x] sp) :
    PySem.W.WalkO q loose XP YP l.row.toRowW d [] (fun f vs => PySem.call f vs) := by
  refine Att.attach_callB hn hdf fun w s₀ s₁ mg mb fa o pm cd doc a vs ns G Y ho hd hcd hmg hobj hints hlen hbits hg => ?_
  obtain ⟨K, fd, cs, sp, KX, hT, nT, C, hb, hsp, hF⟩ := F w mg fa _ Y G.T.g hmg
  refine LamX.law_callTs KX G.T.g G.T.b G.T.builtins G.T.nolimit hg hT nT C G.T.bmain hobj hints (Nat.le_trans hlen hn2) hr hF hb (fun H hH hS => hsp H a ns hlen hbits hH hS) fun H e s' h => ?_
  obtain ⟨_, _, _, _, _, _, _, _, _, _, _, z⟩ := h
  exact z.2
theorem fund_same {K : PySem.W.Frag} {x q x2 q2 : Str} {pa pa2 : Arguments} {bo bo2 : List Stmt} {sc sc2 : Scope} {f : Addr} {fd fd2 : FuncData} (a : FunD K x q pa bo sc [] [] f fd) (b : FunD K x2 q2 pa2 bo2 sc2 [] [] f fd2) : fd = fd2 := by
  obtain ⟨_, _, _, _, _, _, _, _, _, _, _, h1, _⟩ := a.ex
  obtain ⟨_, _, _, _, _, _, _, _, _, _, _, h2, _⟩ := b.ex
  rw [h1] at h2
  cases h2
  rfl
theorem tabS_nil {H : Hp} {P : Addr} {q : Str} (h : H P = some (.tbl #[])) : LamX.TabS H P q := ⟨#[], h, by trivial, fun pos cv z => by cases z⟩
open Classical in
/-- what the law's def is to give -/
theorem law_sp {P : Program} {w : World} {K : PySem.W.Frag} {ts : List (Addr × Str)} {c : List D → List D → Out (R × List D)} {H : Hp} {a : Addr} {ns : List Int} (hT : ∀ t ∈ ts, H t.1 = some (.tbl #[])) (hS : SqL K H a (ns.map V.int)) (hc : c [] [.frz ns] = .ok (.v (.bl true), [])) :
    spF K (P, w, ⟨none, ts⟩) false 1 c [.ref a] H (fun v _ => v = .bl true) fun _ _ _ => False := by
  let F : Hp := fun x => if x ∈ ts.map (·.1) then none else H x
  have hF : ∀ x o, H x = some o → (∀ ps, o ≠ .tbl ps) → F x = some o := fun x o h no => by
    show (if x ∈ ts.map (·.1) then none else H x) = _
    rw [if_neg]
    · exact h
    · intro z
      obtain ⟨t, ht, e⟩ := List.mem_map.mp z
      have := hT t ht
      rw [e, h] at this
      exact no _ (Option.some.inj this)
  have hS' : SqL K F a (ns.map V.int) := by
    rcases hS with h | h
    · rcases h with h | ⟨o, h⟩
      · exact .inl (.inl (hF _ _ h fun ps z => by cases z))
      · exact .inl (.inr ⟨o, hF _ _ h fun ps z => by cases z⟩)
    · exact .inr h
  refine ⟨fun _ => none, F, [], [], [], [.frz ns], [.ref a], ?_, .cons (.frz hS') .nil, rfl, fun h => (by cases h), fun _ => ⟨rfl, rfl, rfl, rfl⟩, ?_⟩
  · exact {
      tb := fun t ht => ⟨tabS_nil (hT t ht), if_pos (List.mem_map.mpr ⟨t, ht, rfl⟩), rfl⟩
      fh := fun x o h => by
        have h : (if x ∈ ts.map (·.1) then none else H x) = some o := h
        split at h
        · cases h
        · exact h
      zh := fun _ _ h => by cases h
      zf := fun _ h => absurd rfl h
      zt := fun _ _ h => by cases h
      len := rfl
      fz := fun i d h => by simp at h
      ow := fun i d h => by simp at h
      od := fun i d h => by simp at h
      dj := fun i j b h g => by obtain ⟨h, _⟩ := h; simp at h
      p0 := fun b h => by cases h }
  · rw [hc]
    intro v F' H' _ _ rr
    cases (show Rp K F' v (.bl true) from rr)
    rfl
end MP
namespace MP
open PySem PySem.Spec PyProof.Rows L2
/-- the classes, as the head is told of them -/
theorem excCB_ok {K : PySem.W.Frag} {D : Addr} (h : excCB K D = true) : ExcC K D := by
  unfold excCB at h
  simp only [Bool.and_eq_true, decide_eq_true_eq] at h
  obtain ⟨⟨⟨⟨⟨⟨⟨h1, h2⟩, h3⟩, h4⟩, h5⟩, h6⟩, h7⟩, h8⟩ := h
  exact ⟨h1, h2, h3, h4, h5, h6, h7, h8⟩
theorem hotB_ok {K : PySem.W.Frag} {mg : Str → Option Value} {own cs : List Str} {blt : List String} {ec : Str} (h : hotB K own blt cs ec = true) (mi : mg "isinstance" = none) (mz : mg "zip" = none) (ho : ∀ c ∈ own, mg c = some (.ref (He.ga K c)))
    (hb : ∀ c ∈ blt, mg (PySem.Str.ofString c) = none ∧ bootBuiltins (PySem.Str.ofString c) = some (.type c)) : HotFacts K mg (own ++ blt.map PySem.Str.ofString) cs ∧ ∀ c ∈ cs, PySem.W.exmOne K (.ref (He.ga K c)) (.ref (He.ga K ec)) = some true := by
  unfold hotB at h
  have h := fun x hx => List.all_eq_true.mp h x hx
  simp only [Bool.and_eq_true, decide_eq_true_eq] at h
  refine ⟨⟨mi, mz, fun x hx => excCB_ok (h x hx).1.1.1, fun x hx c hc => ?_⟩, fun x hx => (h x hx).2⟩
  have hc : c ∈ own ++ blt.map PySem.Str.ofString := by simpa using hc
  rcases List.mem_append.mp hc with hc | hc
  · exact ⟨.ref _, _, .inl (ho c hc), rfl, fun u z => z, of_decide_eq_true (List.all_eq_true.mp (h x hx).1.1.2 c hc)⟩
  · obtain ⟨b, hbm, rfl⟩ := List.mem_map.mp hc
    obtain ⟨h1, h2⟩ := hb b hbm
    exact ⟨.ty b, _, .inr ⟨h1, h2⟩, rfl, fun u z => z, of_decide_eq_true (List.all_eq_true.mp (h x hx).1.2 b hbm)⟩
end MP

end
section
set_option linter.all false
set_option maxRecDepth 100000
/-! The readings of the defs of law_k01 (printed by gen2.py). -/
namespace K01
open MP
open PySem (Str)
def m_lowest : MF := { np := 2, ns := 4, own := false, body := (.cons (.par [(2, false), (3, false)] (.cons (.bi .abs (.cons (.var 0) .nil)) (.cons (.bi .abs (.cons (.var 1) .nil)) .nil))) (.cons (.whil (.v (.cmp .gt (.var 3) (.con (.int 0)))) (.cons (.par [(2, false), (3, false)] (.cons (.var 3) (.cons (.bin .mod (.var 2) (.var 3)) .nil))) .nil)) (.cons (.asg 2 false (.ife (.v (.cmp .gt (.var 1) (.con (.int 0)))) (.var 2) (.neg (.var 2)))) (.cons (.ret (.tup (.cons (.bin .fdiv (.var 0) (.var 2)) (.cons (.bin .fdiv (.var 1) (.var 2)) .nil)))) .nil)))) }
def m_plus : MF := { np := 2, ns := 2, own := false, body := (.cons (.ret (.call (PySem.Str.ofString "lowest") (.cons (.bin .add (.bin .mul (.ixv 0 (.con (.int 0))) (.ixv 1 (.con (.int 1)))) (.bin .mul (.ixv 1 (.con (.int 0))) (.ixv 0 (.con (.int 1))))) (.cons (.bin .mul (.ixv 0 (.con (.int 1))) (.ixv 1 (.con (.int 1)))) .nil)))) .nil) }
def m_minus : MF := { np := 2, ns := 2, own := false, body := (.cons (.ret (.call (PySem.Str.ofString "lowest") (.cons (.bin .sub (.bin .mul (.ixv 0 (.con (.int 0))) (.ixv 1 (.con (.int 1)))) (.bin .mul (.ixv 1 (.con (.int 0))) (.ixv 0 (.con (.int 1))))) (.cons (.bin .mul (.ixv 0 (.con (.int 1))) (.ixv 1 (.con (.int 1)))) .nil)))) .nil) }
def m_times : MF := { np := 2, ns := 2, own := false, body := (.cons (.ret (.call (PySem.Str.ofString "lowest") (.cons (.bin .mul (.ixv 0 (.con (.int 0))) (.ixv 1 (.con (.int 0)))) (.cons (.bin .mul (.ixv 0 (.con (.int 1))) (.ixv 1 (.con (.int 1)))) .nil)))) .nil) }
def m_is_below : MF := { np := 2, ns := 2, own := false, body := (.cons (.ret (.cmp .lt (.bin .mul (.ixv 0 (.con (.int 0))) (.ixv 1 (.con (.int 1)))) (.bin .mul (.ixv 1 (.con (.int 0))) (.ixv 0 (.con (.int 1)))))) .nil) }
def m_lesser : MF := { np := 2, ns := 2, own := false, body := (.cons (.ret (.ife (.v (.call (PySem.Str.ofString "is_below") (.cons (.var 1) (.cons (.var 0) .nil)))) (.var 1) (.var 0))) .nil) }
def m_greater : MF := { np := 2, ns := 2, own := false, body := (.cons (.ret (.ife (.v (.call (PySem.Str.ofString "is_below") (.cons (.var 0) (.cons (.var 1) .nil)))) (.var 1) (.var 0))) .nil) }
def m_total : MF := { np := 1, ns := 3, own := false, body := (.cons (.asg 1 false (.con (.tup [(.int 0), (.int 1)]))) (.cons (.forr (.nm 2) (.v (.var 0)) (.cons (.asg 1 false (.call (PySem.Str.ofString "plus") (.cons (.var 1) (.cons (.var 2) .nil)))) .nil)) (.cons (.retv 1) .nil))) }
def m_multiple_of : MF := { np := 1, ns := 4, own := false, body := (.cons (.asg 1 false (.con (.int 1))) (.cons (.forr (.tp2 (.nm 2) (.nm 3)) (.v (.var 0)) (.cons (.asg 1 false (.bin .mul (.var 1) (.ix (.call (PySem.Str.ofString "lowest") (.cons (.var 3) (.cons (.var 1) .nil))) (.con (.int 0))))) .nil)) (.cons (.retv 1) .nil))) }
def m_in_order : MF := { np := 1, ns := 5, own := false, body := (.cons (.asg 1 false (.call (PySem.Str.ofString "multiple_of") (.cons (.var 0) .nil))) (.cons (.asg 2 false (.bi .sset (.cons (.comp (.nm 4) (.v (.var 0)) .none (.bi .int (.cons (.bin .mul (.ixv 4 (.con (.int 0))) (.bin .fdiv (.var 1) (.ixv 4 (.con (.int 1))))) .nil)) [4]) .nil))) (.cons (.ret (.comp (.nm 3) (.v (.var 2)) .none (.call (PySem.Str.ofString "lowest") (.cons (.var 3) (.cons (.var 1) .nil))) [3])) .nil))) }
def m_is_fraction : MF := { np := 1, ns := 2, own := false, body := (.cons (.iff (.or (.not (.v (.isi [.tuple] (.var 0)))) (.v (.cmp .ne (.lenv 0) (.con (.int 2))))) (.cons (.ret (.con (.bl false))) .nil) .nil) (.cons (.forr (.nm 1) (.v (.var 0)) (.cons (.iff (.or (.not (.v (.isi [.int] (.var 1)))) (.v (.isi [.bool] (.var 1)))) (.cons (.ret (.con (.bl false))) .nil) .nil) .nil)) (.cons (.ret (.and (.cmp .ge (.ixv 0 (.con (.int 1))) (.con (.int 1))) (.cmp .eq (.call (PySem.Str.ofString "lowest") (.cons (.ixv 0 (.con (.int 0))) (.cons (.ixv 0 (.con (.int 1))) .nil))) (.var 0)))) .nil))) }
def m_is_whole : MF := { np := 3, ns := 3, own := false, body := (.cons (.ret (.and (.isi [.int] (.var 0)) (.and (.not (.isi [.bool] (.var 0))) (.chain .le .le (.var 1) (.var 0) (.var 2))))) .nil) }
def m_is_amount : MF := { np := 1, ns := 1, own := false, body := (.cons (.ret (.call (PySem.Str.ofString "is_whole") (.cons (.var 0) (.cons (.neg (.con (.int 1000))) (.cons (.con (.int 1000)) .nil))))) .nil) }
def m_are_numbers : MF := { np := 1, ns := 1, own := false, body := (.cons (.iff (.v (.cmp .in_ (.ixv 0 (.con (.int 0))) (.tup (.cons (.con (.str (PySem.Str.ofString "sure"))) (.cons (.con (.str (PySem.Str.ofString "cap"))) (.cons (.con (.str (PySem.Str.ofString "floor"))) (.cons (.con (.str (PySem.Str.ofString "more"))) .nil))))))) (.cons (.ret (.call (PySem.Str.ofString "is_amount") (.cons (.ixv 0 (.con (.int 1))) .nil))) .nil) .nil) (.cons (.iff (.v (.cmp .eq (.ixv 0 (.con (.int 0))) (.con (.str (PySem.Str.ofString "draw"))))) (.cons (.ret (.con (.bl true))) .nil) .nil) (.cons (.iff (.or (.not (.v (.call (PySem.Str.ofString "is_whole") (.cons (.ixv 0 (.con (.int 1))) (.cons (.con (.int 0)) (.cons (.con (.int 12)) .nil)))))) (.not (.v (.call (PySem.Str.ofString "is_whole") (.cons (.ixv 0 (.con (.int 2))) (.cons (.con (.int 1)) (.cons (.con (.int 12)) .nil))))))) (.cons (.ret (.con (.bl false))) .nil) .nil) (.cons (.ret (.or (.cmp .eq (.ixv 0 (.con (.int 0))) (.con (.str (PySem.Str.ofString "share")))) (.and (.cmp .le (.ixv 0 (.con (.int 1))) (.ixv 0 (.con (.int 2)))) (.call (PySem.Str.ofString "is_amount") (.cons (.ixv 0 (.con (.int 3))) .nil))))) .nil)))) }
def m_inner_values : MF := { np := 1, ns := 2, own := false, body := (.cons (.iff (.v (.cmp .eq (.ixv 0 (.con (.int 0))) (.con (.str (PySem.Str.ofString "sure"))))) (.cons (.ret (.lst .nil)) .nil) .nil) (.cons (.iff (.v (.cmp .ne (.ixv 0 (.con (.int 0))) (.con (.str (PySem.Str.ofString "draw"))))) (.cons (.ret (.lst (.cons (.ixv 0 (.neg (.con (.int 1)))) .nil))) .nil) .nil) (.cons (.iff (.or (.not (.v (.isi [.tuple] (.ixv 0 (.con (.int 1)))))) (.not (.v (.chain .le .le (.con (.int 1)) (.bi .len (.cons (.ixv 0 (.con (.int 1))) .nil)) (.con (.int 4)))))) (.cons (.ret (.con .non)) .nil) .nil) (.cons (.forr (.nm 1) (.v (.ixv 0 (.con (.int 1)))) (.cons (.iff (.or (.not (.v (.isi [.tuple] (.var 1)))) (.or (.v (.cmp .ne (.lenv 1) (.con (.int 2)))) (.not (.v (.call (PySem.Str.ofString "is_whole") (.cons (.ixv 1 (.con (.int 0))) (.cons (.con (.int 1)) (.cons (.con (.int 12)) .nil)))))))) (.cons (.ret (.con .non)) .nil) .nil) .nil)) (.cons (.ret (.comp (.nm 1) (.v (.ixv 0 (.con (.int 1)))) .none (.ixv 1 (.con (.int 1))) [1])) .nil))))) }
def m_sure_count : MF := { np := 2, ns := 6, own := false, body := (.cons (.iff (.or (.v (.cmp .eq (.var 1) (.con (.int 0)))) (.or (.not (.v (.isi [.tuple] (.var 0)))) (.or (.v (.cmp .eq (.var 0) (.tup .nil))) (.not (.v (.isi [.str] (.ixv 0 (.con (.int 0))))))))) (.cons (.ret (.con .non)) .nil) .nil) (.cons (.iff (.or (.v (.cmp .ne (.kget [((PySem.Str.ofString "sure"), 2), ((PySem.Str.ofString "draw"), 2), ((PySem.Str.ofString "cap"), 3), ((PySem.Str.ofString "floor"), 3), ((PySem.Str.ofString "more"), 3), ((PySem.Str.ofString "share"), 4), ((PySem.Str.ofString "insured"), 5)] (.ixv 0 (.con (.int 0))) (.con (.int 0))) (.lenv 0))) (.not (.v (.call (PySem.Str.ofString "are_numbers") (.cons (.var 0) .nil))))) (.cons (.ret (.con .non)) .nil) .nil) (.cons (.asg 2 false (.call (PySem.Str.ofString "inner_values") (.cons (.var 0) .nil))) (.cons (.iff (.v (.cmp .is_ (.var 2) (.con .non))) (.cons (.ret (.con .non)) .nil) .nil) (.cons (.asg 3 false (.ife (.v (.cmp .eq (.var 2) (.lst .nil))) (.con (.int 1)) (.con (.int 0)))) (.cons (.forr (.nm 4) (.v (.var 2)) (.cons (.asg 5 false (.call (PySem.Str.ofString "sure_count") (.cons (.var 4) (.cons (.bin .sub (.var 1) (.con (.int 1))) .nil)))) (.cons (.iff (.v (.cmp .is_ (.var 5) (.con .non))) (.cons (.ret (.con .non)) .nil) .nil) (.cons (.asg 3 false (.bin .add (.var 3) (.var 5))) .nil)))) (.cons (.retv 3) .nil))))))) }
def m_has_contract : MF := { np := 1, ns := 2, own := false, body := (.cons (.asg 1 false (.call (PySem.Str.ofString "sure_count") (.cons (.var 0) (.cons (.con (.int 6)) .nil)))) (.cons (.ret (.and (.cmp .isnot (.var 1) (.con .non)) (.cmp .le (.var 1) (.con (.int 12))))) .nil)) }
def m_need_contract : MF := { np := 1, ns := 1, own := false, body := (.cons (.iff (.not (.v (.call (PySem.Str.ofString "has_contract") (.cons (.var 0) .nil)))) (.cons (.rais (PySem.Str.ofString "InvalidContract")) .nil) .nil) .nil) }
def m_paid : MF := { np := 2, ns := 4, own := false, body := (.cons (.asg 2 false (.ixv 0 (.con (.int 0)))) (.cons (.iff (.v (.cmp .eq (.var 2) (.con (.str (PySem.Str.ofString "cap"))))) (.cons (.ret (.call (PySem.Str.ofString "lesser") (.cons (.var 1) (.cons (.tup (.cons (.ixv 0 (.con (.int 1))) (.cons (.con (.int 1)) .nil))) .nil)))) .nil) .nil) (.cons (.iff (.v (.cmp .eq (.var 2) (.con (.str (PySem.Str.ofString "floor"))))) (.cons (.ret (.call (PySem.Str.ofString "greater") (.cons (.var 1) (.cons (.tup (.cons (.ixv 0 (.con (.int 1))) (.cons (.con (.int 1)) .nil))) .nil)))) .nil) .nil) (.cons (.iff (.v (.cmp .eq (.var 2) (.con (.str (PySem.Str.ofString "more"))))) (.cons (.ret (.call (PySem.Str.ofString "plus") (.cons (.var 1) (.cons (.tup (.cons (.ixv 0 (.con (.int 1))) (.cons (.con (.int 1)) .nil))) .nil)))) .nil) .nil) (.cons (.asg 3 false (.call (PySem.Str.ofString "lowest") (.cons (.ixv 0 (.con (.int 1))) (.cons (.ixv 0 (.con (.int 2))) .nil)))) (.cons (.iff (.v (.cmp .eq (.var 2) (.con (.str (PySem.Str.ofString "share"))))) (.cons (.ret (.call (PySem.Str.ofString "times") (.cons (.var 3) (.cons (.var 1) .nil)))) .nil) .nil) (.cons (.ret (.call (PySem.Str.ofString "plus") (.cons (.var 1) (.cons (.call (PySem.Str.ofString "times") (.cons (.var 3) (.cons (.call (PySem.Str.ofString "greater") (.cons (.con (.tup [(.int 0), (.int 1)])) (.cons (.call (PySem.Str.ofString "minus") (.cons (.tup (.cons (.ixv 0 (.con (.int 3))) (.cons (.con (.int 1)) .nil))) (.cons (.var 1) .nil))) .nil))) .nil))) .nil)))) .nil))))))) }
def m_joined : MF := { np := 1, ns := 4, own := false, body := (.cons (.dnew 1) (.cons (.forr (.tp2 (.nm 2) (.nm 3)) (.v (.var 0)) (.cons (.dset 1 (.var 2) (.call (PySem.Str.ofString "plus") (.cons (.dget 1 (.var 2) (.con (.tup [(.int 0), (.int 1)]))) (.cons (.var 3) .nil)))) .nil)) (.cons (.ret (.comp (.nm 2) (.v (.call (PySem.Str.ofString "in_order") (.cons (.dlist 1) .nil))) .none (.tup (.cons (.var 2) (.cons (.dix 1 (.var 2)) .nil))) [2])) .nil))) }
def m_rows_of : MF := { np := 1, ns := 7, own := false, body := (.cons (.iff (.v (.cmp .eq (.ixv 0 (.con (.int 0))) (.con (.str (PySem.Str.ofString "sure"))))) (.cons (.ret (.lst (.cons (.tup (.cons (.tup (.cons (.ixv 0 (.con (.int 1))) (.cons (.con (.int 1)) .nil))) (.cons (.con (.tup [(.int 1), (.int 1)])) .nil))) .nil))) .nil) .nil) (.cons (.iff (.v (.cmp .ne (.ixv 0 (.con (.int 0))) (.con (.str (PySem.Str.ofString "draw"))))) (.cons (.ret (.call (PySem.Str.ofString "joined") (.cons (.comp (.tp2 (.nm 5) (.nm 6)) (.v (.call (PySem.Str.ofString "rows_of") (.cons (.ixv 0 (.neg (.con (.int 1)))) .nil))) .none (.tup (.cons (.call (PySem.Str.ofString "paid") (.cons (.var 0) (.cons (.var 5) .nil))) (.cons (.var 6) .nil))) [5, 6]) .nil))) .nil) .nil) (.cons (.asgt (.tp2 (.nm 1) (.nm 2)) (.tup (.cons (.bi .sum (.cons (.comp (.tp2 (.nm 3) (.nm 4)) (.v (.ixv 0 (.con (.int 1)))) .none (.var 3) [3, 4]) .nil)) (.cons (.lst .nil) .nil)))) (.cons (.forr (.tp2 (.nm 3) (.nm 4)) (.v (.ixv 0 (.con (.int 1)))) (.cons (.asg 2 false (.bin .add (.var 2) (.comp (.tp2 (.nm 5) (.nm 6)) (.v (.call (PySem.Str.ofString "rows_of") (.cons (.var 4) .nil))) .none (.tup (.cons (.var 5) (.cons (.call (PySem.Str.ofString "times") (.cons (.var 6) (.cons (.call (PySem.Str.ofString "lowest") (.cons (.var 3) (.cons (.var 1) .nil))) .nil))) .nil))) [5, 6]))) .nil)) (.cons (.ret (.call (PySem.Str.ofString "joined") (.cons (.var 2) .nil))) .nil))))) }
def m_mean_of : MF := { np := 1, ns := 3, own := false, body := (.cons (.ret (.call (PySem.Str.ofString "total") (.cons (.comp (.tp2 (.nm 1) (.nm 2)) (.v (.var 0)) .none (.call (PySem.Str.ofString "times") (.cons (.var 1) (.cons (.var 2) .nil))) [1, 2]) .nil))) .nil) }
def m_is_contract : MF := { np := 1, ns := 1, own := false, body := (.cons (.ret (.call (PySem.Str.ofString "has_contract") (.cons (.var 0) .nil))) .nil) }
def m_has_person : MF := { np := 1, ns := 3, own := false, body := (.cons (.iff (.or (.not (.v (.isi [.tuple] (.var 0)))) (.or (.v (.cmp .ne (.lenv 0) (.con (.int 2)))) (.or (.not (.v (.isi [.tuple] (.ixv 0 (.con (.int 1)))))) (.v (.cmp .gt (.bi .len (.cons (.ixv 0 (.con (.int 1))) .nil)) (.con (.int 30))))))) (.cons (.ret (.con (.bl false))) .nil) .nil) (.cons (.iff (.or (.not (.v (.isi [.int] (.ixv 0 (.con (.int 0)))))) (.or (.v (.isi [.bool] (.ixv 0 (.con (.int 0))))) (.or (.v (.cmp .lt (.ixv 0 (.con (.int 0))) (.con (.int 0)))) (.v (.cmp .eq (.var 0) (.tup (.cons (.con (.int 0)) (.cons (.tup .nil) .nil)))))))) (.cons (.ret (.con (.bl false))) .nil) .nil) (.cons (.forr (.nm 1) (.v (.ixv 0 (.con (.int 1)))) (.cons (.iff (.or (.not (.v (.isi [.tuple] (.var 1)))) (.or (.v (.cmp .ne (.lenv 1) (.con (.int 2)))) (.not (.v (.call (PySem.Str.ofString "is_fraction") (.cons (.ixv 1 (.con (.int 0))) .nil)))))) (.cons (.ret (.con (.bl false))) .nil) .nil) (.cons (.iff (.or (.not (.v (.isi [.int] (.ixv 1 (.con (.int 1)))))) (.or (.v (.isi [.bool] (.ixv 1 (.con (.int 1))))) (.v (.cmp .lt (.ixv 1 (.con (.int 1))) (.con (.int 1)))))) (.cons (.ret (.con (.bl false))) .nil) .nil) .nil))) (.cons (.asg 2 false (.comp (.nm 1) (.v (.ixv 0 (.con (.int 1)))) .none (.ixv 1 (.con (.int 0))) [1])) (.cons (.ret (.or (.cmp .eq (.var 2) (.lst .nil)) (.cmp .eq (.var 2) (.call (PySem.Str.ofString "in_order") (.cons (.var 2) .nil))))) .nil))))) }
def m_is_person : MF := { np := 1, ns := 1, own := false, body := (.cons (.ret (.call (PySem.Str.ofString "has_person") (.cons (.var 0) .nil))) .nil) }
def m_rows : MF := { np := 1, ns := 1, own := false, body := (.cons (.expr (.call (PySem.Str.ofString "need_contract") (.cons (.var 0) .nil))) (.cons (.ret (.call (PySem.Str.ofString "rows_of") (.cons (.var 0) .nil))) .nil)) }
def m_mean : MF := { np := 1, ns := 1, own := false, body := (.cons (.expr (.call (PySem.Str.ofString "need_contract") (.cons (.var 0) .nil))) (.cons (.ret (.call (PySem.Str.ofString "mean_of") (.cons (.call (PySem.Str.ofString "rows_of") (.cons (.var 0) .nil)) .nil))) .nil)) }
def m__law_vat : MF := { np := 2, ns := 3, own := false, body := (.cons (.asg 2 false (.bin .add (.bin .mul (.con (.int 7919)) (.var 1)) (.con (.int 43)))) (.cons (.iff (.v (.cmp .lt (.var 1) (.lenv 0))) (.cons (.asg 2 false (.bi .abs (.cons (.bi .int (.cons (.ixv 0 (.var 1)) .nil)) .nil))) .nil) .nil) (.cons (.ret (.lst (.cons (.ife (.v (.cmp .ge (.var 2) (.bin .pow (.con (.int 10)) (.con (.int 18))))) (.var 2) (.con (.int 0))) (.cons (.bin .add (.bin .mod (.bi .int (.cons (.bin .add (.bin .add (.bin .mul (.var 2) (.con (.int 131071))) (.bin .mul (.con (.int 8191)) (.var 1))) (.con (.int 5))) .nil)) (.con (.int 2147483629))) (.con (.int 1))) .nil)))) .nil))) }
def m__law_under : MF := { np := 2, ns := 4, own := true, body := (.cons (.iff (.v (.cmp .gt (.ixv 0 (.con (.int 0))) (.con (.int 0)))) (.cons (.asg 3 false (.bin .mod (.bi .int (.cons (.ixv 0 (.con (.int 0))) .nil)) (.var 1))) (.cons (.setix 0 (.con (.int 0)) (.bin .fdiv (.ixv 0 (.con (.int 0))) (.var 1))) (.cons (.retv 3) .nil))) .nil) (.cons (.setix 0 (.con (.int 1)) (.bin .mod (.bi .int (.cons (.bin .add (.bin .mul (.ixv 0 (.con (.int 1))) (.con (.int 39373))) (.con (.int 101))) .nil)) (.con (.int 2147483629)))) (.cons (.asg 2 false (.bin .mod (.bi .int (.cons (.bin .mul (.ixv 0 (.con (.int 1))) (.bin .add (.bin .fdiv (.ixv 0 (.con (.int 1))) (.con (.int 5))) (.con (.int 9)))) .nil)) (.con (.int 2147483587)))) (.cons (.ret (.bin .mod (.bi .int (.cons (.bin .fdiv (.var 2) (.con (.int 32))) .nil)) (.var 1))) .nil)))) }
def m__law_some : MF := { np := 2, ns := 2, own := true, body := (.cons (.ret (.ixv 1 (.callo (PySem.Str.ofString "_law_under") 0 (.cons (.lenv 1) .nil)))) .nil) }
def m__law_is_whole : MF := { np := 3, ns := 3, own := false, body := (.cons (.ret (.and (.isi [.int] (.var 0)) (.and (.not (.isi [.bool] (.var 0))) (.chain .le .le (.var 1) (.var 0) (.var 2))))) .nil) }
def m__law_truly : MF := { np := 2, ns := 2, own := false, body := (.cons (.ret (.and (.isi [.bool] (.var 0)) (.cmp .eq (.var 0) (.var 1)))) .nil) }
def m__law_low : MF := { np := 2, ns := 4, own := false, body := (.cons (.par [(2, false), (3, false)] (.cons (.bi .abs (.cons (.var 0) .nil)) (.cons (.bi .abs (.cons (.var 1) .nil)) .nil))) (.cons (.whil (.v (.cmp .ne (.var 3) (.con (.int 0)))) (.cons (.par [(2, false), (3, false)] (.cons (.var 3) (.cons (.bin .mod (.var 2) (.var 3)) .nil))) .nil)) (.cons (.asg 2 false (.ife (.v (.cmp .gt (.var 1) (.con (.int 0)))) (.var 2) (.neg (.var 2)))) (.cons (.ret (.tup (.cons (.bin .fdiv (.var 0) (.var 2)) (.cons (.bin .fdiv (.var 1) (.var 2)) .nil)))) .nil)))) }
def m__law_less : MF := { np := 2, ns := 2, own := false, body := (.cons (.ret (.cmp .lt (.bin .mul (.ixv 0 (.con (.int 0))) (.ixv 1 (.con (.int 1)))) (.bin .mul (.ixv 1 (.con (.int 0))) (.ixv 0 (.con (.int 1)))))) .nil) }
def m__law_ordered : MF := { np := 1, ns := 5, own := false, body := (.cons (.asg 1 false (.lst .nil)) (.cons (.forr (.nm 2) (.v (.var 0)) (.cons (.iff (.v (.cmp .notin (.var 2) (.var 1))) (.cons (.asg 3 false (.bi .len (.cons (.comp (.nm 4) (.v (.var 1)) (.some (.v (.call (PySem.Str.ofString "_law_less") (.cons (.var 4) (.cons (.var 2) .nil))))) (.var 4) [4]) .nil))) (.cons (.asg 1 false (.bin .add (.bin .add (.sl (.var 1) .none (.some (.var 3))) (.lst (.cons (.var 2) .nil))) (.sl (.var 1) (.some (.var 3)) .none))) .nil)) .nil) .nil)) (.cons (.retv 1) .nil))) }
def m__law_is_fraction : MF := { np := 1, ns := 2, own := false, body := (.cons (.iff (.or (.not (.v (.isi [.tuple] (.var 0)))) (.v (.cmp .ne (.lenv 0) (.con (.int 2))))) (.cons (.ret (.con (.bl false))) .nil) .nil) (.cons (.iff (.v (.cmp .ne (.comp (.nm 1) (.v (.var 0)) (.some (.or (.not (.v (.isi [.int] (.var 1)))) (.v (.isi [.bool] (.var 1))))) (.var 1) [1]) (.lst .nil))) (.cons (.ret (.con (.bl false))) .nil) .nil) (.cons (.ret (.and (.cmp .gt (.ixv 0 (.con (.int 1))) (.con (.int 0))) (.cmp .eq (.call (PySem.Str.ofString "_law_low") (.cons (.ixv 0 (.con (.int 0))) (.cons (.ixv 0 (.con (.int 1))) .nil))) (.var 0)))) .nil))) }
def m__law_shape : MF := { np := 1, ns := 4, own := false, body := (.cons (.iff (.or (.not (.v (.isi [.tuple] (.var 0)))) (.or (.v (.cmp .eq (.var 0) (.tup .nil))) (.not (.v (.isi [.str] (.ixv 0 (.con (.int 0)))))))) (.cons (.ret (.con .non)) .nil) .nil) (.cons (.par [(1, false), (2, false)] (.cons (.ixv 0 (.con (.int 0))) (.cons (.lenv 0) .nil))) (.cons (.iff (.v (.cmp .eq (.var 1) (.con (.str (PySem.Str.ofString "draw"))))) (.cons (.iff (.or (.v (.cmp .ne (.var 2) (.con (.int 2)))) (.or (.not (.v (.isi [.tuple] (.ixv 0 (.con (.int 1)))))) (.not (.v (.chain .le .le (.con (.int 1)) (.bi .len (.cons (.ixv 0 (.con (.int 1))) .nil)) (.con (.int 4))))))) (.cons (.ret (.con .non)) .nil) .nil) (.cons (.forr (.nm 3) (.v (.ixv 0 (.con (.int 1)))) (.cons (.iff (.or (.not (.v (.isi [.tuple] (.var 3)))) (.or (.v (.cmp .ne (.lenv 3) (.con (.int 2)))) (.not (.v (.call (PySem.Str.ofString "_law_is_whole") (.cons (.ixv 3 (.con (.int 0))) (.cons (.con (.int 1)) (.cons (.con (.int 12)) .nil)))))))) (.cons (.ret (.con .non)) .nil) .nil) .nil)) (.cons (.ret (.comp (.nm 3) (.v (.ixv 0 (.con (.int 1)))) .none (.ixv 3 (.con (.int 1))) [3])) .nil))) .nil) (.cons (.iff (.v (.cmp .in_ (.var 1) (.lst (.cons (.con (.str (PySem.Str.ofString "sure"))) (.cons (.con (.str (PySem.Str.ofString "cap"))) (.cons (.con (.str (PySem.Str.ofString "floor"))) (.cons (.con (.str (PySem.Str.ofString "more"))) .nil))))))) (.cons (.iff (.or (.v (.cmp .ne (.var 2) (.ife (.v (.cmp .eq (.var 1) (.con (.str (PySem.Str.ofString "sure"))))) (.con (.int 2)) (.con (.int 3))))) (.not (.v (.call (PySem.Str.ofString "_law_is_whole") (.cons (.ixv 0 (.con (.int 1))) (.cons (.neg (.con (.int 1000))) (.cons (.con (.int 1000)) .nil))))))) (.cons (.ret (.con .non)) .nil) .nil) (.cons (.ret (.bi .list (.cons (.sl (.var 0) (.some (.con (.int 2))) .none) .nil))) .nil)) .nil) (.cons (.iff (.v (.cmp .ne (.var 2) (.tget (.ddisp [((PySem.Str.ofString "share"), 4), ((PySem.Str.ofString "insured"), 5)]) (.var 1) (.con (.int 0))))) (.cons (.ret (.con .non)) .nil) .nil) (.cons (.iff (.or (.not (.v (.call (PySem.Str.ofString "_law_is_whole") (.cons (.ixv 0 (.con (.int 1))) (.cons (.con (.int 0)) (.cons (.con (.int 12)) .nil)))))) (.not (.v (.call (PySem.Str.ofString "_law_is_whole") (.cons (.ixv 0 (.con (.int 2))) (.cons (.con (.int 1)) (.cons (.con (.int 12)) .nil))))))) (.cons (.ret (.con .non)) .nil) .nil) (.cons (.iff (.and (.v (.cmp .eq (.var 1) (.con (.str (PySem.Str.ofString "insured"))))) (.not (.and (.v (.cmp .le (.ixv 0 (.con (.int 1))) (.ixv 0 (.con (.int 2))))) (.v (.call (PySem.Str.ofString "_law_is_whole") (.cons (.ixv 0 (.con (.int 3))) (.cons (.neg (.con (.int 1000))) (.cons (.con (.int 1000)) .nil)))))))) (.cons (.ret (.con .non)) .nil) .nil) (.cons (.ret (.lst (.cons (.ixv 0 (.neg (.con (.int 1)))) .nil))) .nil)))))))) }
def m__law_ends : MF := { np := 2, ns := 4, own := false, body := (.cons (.asg 2 false (.call (PySem.Str.ofString "_law_shape") (.cons (.var 0) .nil))) (.cons (.iff (.or (.v (.cmp .is_ (.var 2) (.con .non))) (.v (.cmp .eq (.var 1) (.con (.int 0))))) (.cons (.ret (.con (.int 1000))) .nil) .nil) (.cons (.ret (.ife (.v (.cmp .eq (.var 2) (.lst .nil))) (.con (.int 1)) (.bi .sum (.cons (.comp (.nm 3) (.v (.var 2)) .none (.bi .int (.cons (.call (PySem.Str.ofString "_law_ends") (.cons (.var 3) (.cons (.bin .sub (.var 1) (.con (.int 1))) .nil))) .nil)) [3]) .nil)))) .nil))) }
def m__law_is_contract : MF := { np := 1, ns := 1, own := false, body := (.cons (.ret (.cmp .le (.call (PySem.Str.ofString "_law_ends") (.cons (.var 0) (.cons (.con (.int 6)) .nil))) (.con (.int 12)))) .nil) }
def m__law_is_person : MF := { np := 1, ns := 3, own := false, body := (.cons (.iff (.or (.not (.v (.isi [.tuple] (.var 0)))) (.or (.v (.cmp .ne (.lenv 0) (.con (.int 2)))) (.or (.not (.v (.isi [.tuple] (.ixv 0 (.con (.int 1)))))) (.v (.cmp .gt (.bi .len (.cons (.ixv 0 (.con (.int 1))) .nil)) (.con (.int 30))))))) (.cons (.ret (.con (.bl false))) .nil) .nil) (.cons (.forr (.nm 1) (.v (.ixv 0 (.con (.int 1)))) (.cons (.iff (.or (.not (.v (.isi [.tuple] (.var 1)))) (.or (.v (.cmp .ne (.lenv 1) (.con (.int 2)))) (.not (.v (.call (PySem.Str.ofString "_law_is_fraction") (.cons (.ixv 1 (.con (.int 0))) .nil)))))) (.cons (.ret (.con (.bl false))) .nil) .nil) (.cons (.iff (.or (.not (.v (.isi [.int] (.ixv 1 (.con (.int 1)))))) (.or (.v (.isi [.bool] (.ixv 1 (.con (.int 1))))) (.v (.cmp .lt (.ixv 1 (.con (.int 1))) (.con (.int 1)))))) (.cons (.ret (.con (.bl false))) .nil) .nil) .nil))) (.cons (.asg 2 false (.comp (.nm 1) (.v (.ixv 0 (.con (.int 1)))) .none (.ixv 1 (.con (.int 0))) [1])) (.cons (.iff (.or (.not (.v (.isi [.int] (.ixv 0 (.con (.int 0)))))) (.or (.v (.isi [.bool] (.ixv 0 (.con (.int 0))))) (.v (.cmp .lt (.ixv 0 (.con (.int 0))) (.con (.int 0)))))) (.cons (.ret (.con (.bl false))) .nil) .nil) (.cons (.ret (.and (.cmp .eq (.var 2) (.call (PySem.Str.ofString "_law_ordered") (.cons (.var 2) .nil))) (.or (.cmp .gt (.ixv 0 (.con (.int 0))) (.con (.int 0))) (.cmp .ne (.var 2) (.lst .nil))))) .nil))))) }
def m__law_contract : MF := { np := 2, ns := 8, own := true, body := (.cons (.asg 2 false (.ife (.v (.cmp .gt (.var 1) (.con (.int 1)))) (.callo (PySem.Str.ofString "_law_under") 0 (.cons (.con (.int 10)) .nil)) (.con (.int 0)))) (.cons (.iff (.v (.cmp .lt (.var 2) (.con (.int 3)))) (.cons (.ret (.tup (.cons (.con (.str (PySem.Str.ofString "sure"))) (.cons (.callo (PySem.Str.ofString "_law_some") 0 (.cons (.lst (.cons (.con (.int 0)) (.cons (.con (.int 1)) (.cons (.con (.int 2)) (.cons (.con (.int 3)) (.cons (.con (.int 4)) (.cons (.con (.int 5)) (.cons (.con (.int 6)) (.cons (.con (.int 8)) (.cons (.con (.int 10)) (.cons (.con (.int 12)) (.cons (.neg (.con (.int 3))) (.cons (.neg (.con (.int 7))) .nil))))))))))))) .nil)) .nil)))) .nil) .nil) (.cons (.iff (.v (.cmp .lt (.var 2) (.con (.int 7)))) (.cons (.asg 4 true (.lst .nil)) (.cons (.forr (.nm 5) (.r1 (.bin .add (.con (.int 2)) (.callo (PySem.Str.ofString "_law_under") 0 (.cons (.con (.int 2)) .nil)))) (.cons (.app 4 (.tup (.cons (.callo (PySem.Str.ofString "_law_some") 0 (.cons (.lst (.cons (.con (.int 1)) (.cons (.con (.int 1)) (.cons (.con (.int 1)) (.cons (.con (.int 2)) (.cons (.con (.int 3)) .nil)))))) .nil)) (.cons (.callo (PySem.Str.ofString "_law_contract") 0 (.cons (.bin .sub (.var 1) (.con (.int 1))) .nil)) .nil)))) .nil)) (.cons (.ret (.tup (.cons (.con (.str (PySem.Str.ofString "draw"))) (.cons (.bi .tuple (.cons (.var 4) .nil)) .nil)))) .nil))) .nil) (.cons (.par [(6, false), (7, false)] (.cons (.callo (PySem.Str.ofString "_law_contract") 0 (.cons (.bin .sub (.var 1) (.con (.int 1))) .nil)) (.cons (.bin .sub (.callo (PySem.Str.ofString "_law_under") 0 (.cons (.con (.int 12)) .nil)) (.con (.int 2))) .nil))) (.cons (.iff (.v (.cmp .eq (.var 2) (.con (.int 7)))) (.cons (.ret (.tup (.cons (.callo (PySem.Str.ofString "_law_some") 0 (.cons (.lst (.cons (.con (.str (PySem.Str.ofString "cap"))) (.cons (.con (.str (PySem.Str.ofString "floor"))) (.cons (.con (.str (PySem.Str.ofString "more"))) .nil)))) .nil)) (.cons (.var 7) (.cons (.var 6) .nil))))) .nil) .nil) (.cons (.iff (.v (.cmp .eq (.var 2) (.con (.int 8)))) (.cons (.ret (.tup (.cons (.con (.str (PySem.Str.ofString "share"))) (.cons (.callo (PySem.Str.ofString "_law_under") 0 (.cons (.con (.int 4)) .nil)) (.cons (.bin .add (.con (.int 1)) (.callo (PySem.Str.ofString "_law_under") 0 (.cons (.con (.int 3)) .nil))) (.cons (.var 6) .nil)))))) .nil) .nil) (.cons (.asg 3 false (.callo (PySem.Str.ofString "_law_under") 0 (.cons (.con (.int 4)) .nil))) (.cons (.ret (.tup (.cons (.con (.str (PySem.Str.ofString "insured"))) (.cons (.var 3) (.cons (.bin .add (.bi .max2 (.cons (.con (.int 1)) (.cons (.var 3) .nil))) (.callo (PySem.Str.ofString "_law_under") 0 (.cons (.con (.int 2)) .nil))) (.cons (.var 7) (.cons (.var 6) .nil))))))) .nil)))))))) }
def m__law_small : MF := { np := 2, ns := 3, own := true, body := (.cons (.asg 2 false (.callo (PySem.Str.ofString "_law_contract") 0 (.cons (.var 1) .nil))) (.cons (.ret (.ife (.v (.call (PySem.Str.ofString "_law_is_contract") (.cons (.var 2) .nil))) (.var 2) (.tup (.cons (.con (.str (PySem.Str.ofString "draw"))) (.cons (.tup (.cons (.tup (.cons (.con (.int 1)) (.cons (.tup (.cons (.con (.str (PySem.Str.ofString "sure"))) (.cons (.con (.int 1)) .nil))) .nil))) (.cons (.tup (.cons (.con (.int 1)) (.cons (.tup (.cons (.con (.str (PySem.Str.ofString "sure"))) (.cons (.con (.int 6)) .nil))) .nil))) .nil))) .nil))))) .nil)) }
def m__law_person : MF := { np := 1, ns := 3, own := true, body := (.cons (.asg 1 false (.tup .nil)) (.cons (.forr (.nm 2) (.r2 (.neg (.con (.int 4))) (.con (.int 12))) (.cons (.iff (.v (.cmp .eq (.callo (PySem.Str.ofString "_law_under") 0 (.cons (.con (.int 7)) .nil)) (.con (.int 0)))) (.cons (.asg 1 false (.bin .add (.var 1) (.tup (.cons (.tup (.cons (.call (PySem.Str.ofString "_law_low") (.cons (.bin .add (.bin .mul (.con (.int 2)) (.var 2)) (.callo (PySem.Str.ofString "_law_under") 0 (.cons (.con (.int 2)) .nil))) (.cons (.con (.int 2)) .nil))) (.cons (.bin .add (.con (.int 1)) (.callo (PySem.Str.ofString "_law_under") 0 (.cons (.con (.int 4)) .nil))) .nil))) .nil)))) .nil) .nil) .nil)) (.cons (.ret (.tup (.cons (.ife (.v (.cmp .ne (.var 1) (.tup .nil))) (.callo (PySem.Str.ofString "_law_under") 0 (.cons (.con (.int 3)) .nil)) (.con (.int 1))) (.cons (.var 1) .nil)))) .nil))) }
def m__law_names : MF := { np := 1, ns := 5, own := false, body := (.cons (.asg 1 false (.lst (.cons (.isx (PySem.Str.ofString "InvalidContract")) (.cons (.isx (PySem.Str.ofString "InvalidPerson")) (.cons (.isx (PySem.Str.ofString "InvalidOffers")) .nil))))) (.cons (.asg 1 false (.bin .add (.var 1) (.lst (.cons (.isx (PySem.Str.ofString "InvalidChoices")) (.cons (.isx (PySem.Str.ofString "InvalidNumber")) (.cons (.isx (PySem.Str.ofString "InvalidText")) .nil)))))) (.cons (.asg 1 false (.bin .add (.var 1) (.lst (.cons (.isx (PySem.Str.ofString "NothingToUndo")) (.cons (.isx (PySem.Str.ofString "TooMany")) (.cons (.isx (PySem.Str.ofString "ValueError")) .nil)))))) (.cons (.asg 2 false (.con (.str (PySem.Str.ofString "contract person offers choices number text undo many value")))) (.cons (.ret (.bi .join (.cons (.con (.str (PySem.Str.ofString " "))) (.cons (.hsel (.bi .split (.cons (.var 2) (.cons (.con (.str (PySem.Str.ofString " "))) .nil))) (.var 1)) .nil)))) .nil))))), hot := [(PySem.Str.ofString "InvalidContract")] }
def m__law_odd : MF := { np := 2, ns := 5, own := true, body := (.cons (.asg 2 false (.lst (.cons (.con .non) (.cons (.con (.bl true)) (.cons (.con (.bl false)) (.cons (.con (.int 0)) (.cons (.con (.int 1)) (.cons (.con (.int 7)) (.cons (.neg (.con (.int 1))) (.cons (.bin .pow (.con (.int 10)) (.con (.int 31))) (.cons (.con (.str (PySem.Str.ofString ""))) (.cons (.con (.str (PySem.Str.ofString "sure"))) (.cons (.con (.str (PySem.Str.ofString "draw"))) (.cons (.tup .nil) (.cons (.lst .nil) (.cons (.tup (.cons (.con (.int 0)) (.cons (.con (.int 1)) .nil))) (.cons (.tup (.cons (.con (.int 1)) (.cons (.tup .nil) .nil))) (.cons (.tup (.cons (.con (.int 0)) (.cons (.tup .nil) .nil))) .nil)))))))))))))))))) (.cons (.asg 2 false (.bin .add (.var 2) (.lst (.cons (.tup (.cons (.con (.str (PySem.Str.ofString "sure"))) (.cons (.con (.int 1)) .nil))) (.cons (.tup (.cons (.con (.str (PySem.Str.ofString "sure"))) (.cons (.con (.int 1001)) .nil))) (.cons (.tup (.cons (.con (.int 0)) (.cons (.tup (.cons (.tup (.cons (.tup (.cons (.con (.int 1)) (.cons (.con (.int 2)) .nil))) (.cons (.con (.int 1)) .nil))) .nil)) .nil))) (.cons (.tup (.cons (.tup (.cons (.con (.int 1)) (.cons (.con (.int 2)) .nil))) (.cons (.tup (.cons (.con (.int 1)) (.cons (.con (.int 2)) .nil))) .nil))) (.cons (.tup (.cons (.con (.str (PySem.Str.ofString "cap"))) (.cons (.con (.int 3)) (.cons (.tup (.cons (.con (.str (PySem.Str.ofString "sure"))) (.cons (.con (.int 2)) .nil))) .nil)))) .nil)))))))) (.cons (.iff (.or (.v (.cmp .eq (.var 1) (.con (.int 0)))) (.v (.cmp .lt (.callo (PySem.Str.ofString "_law_under") 0 (.cons (.con (.int 9)) .nil)) (.con (.int 6))))) (.cons (.ret (.callo (PySem.Str.ofString "_law_some") 0 (.cons (.var 2) .nil))) .nil) .nil) (.cons (.asg 3 false (.comp (.nm 4) (.r1 (.callo (PySem.Str.ofString "_law_under") 0 (.cons (.con (.int 4)) .nil))) .none (.callo (PySem.Str.ofString "_law_odd") 0 (.cons (.bin .sub (.var 1) (.con (.int 1))) .nil)) [4])) (.cons (.ret (.ife (.v (.cmp .eq (.callo (PySem.Str.ofString "_law_under") 0 (.cons (.con (.int 3)) .nil)) (.con (.int 0)))) (.var 3) (.bi .tuple (.cons (.var 3) .nil)))) .nil))))) }
def m__law_bent : MF := { np := 2, ns := 5, own := true, body := (.cons (.iff (.or (.not (.v (.isi [.tuple] (.var 1)))) (.or (.v (.cmp .eq (.var 1) (.tup .nil))) (.v (.cmp .eq (.callo (PySem.Str.ofString "_law_under") 0 (.cons (.con (.int 7)) .nil)) (.con (.int 0)))))) (.cons (.asg 2 false (.lst (.cons (.callo (PySem.Str.ofString "_law_odd") 0 (.cons (.con (.int 1)) .nil)) (.cons (.callo (PySem.Str.ofString "_law_odd") 0 (.cons (.con (.int 1)) .nil)) .nil)))) (.cons (.iff (.v (.isi [.str] (.var 1))) (.cons (.asg 2 false (.bin .add (.var 2) (.lst (.cons (.con (.str (PySem.Str.ofString "sure"))) (.cons (.con (.str (PySem.Str.ofString "draw"))) (.cons (.con (.str (PySem.Str.ofString "cap"))) (.cons (.con (.str (PySem.Str.ofString "floor"))) (.cons (.con (.str (PySem.Str.ofString "more"))) (.cons (.con (.str (PySem.Str.ofString "share"))) (.cons (.con (.str (PySem.Str.ofString "insured"))) (.cons (.bin .add (.var 1) (.con (.str (PySem.Str.ofString "s")))) .nil))))))))))) .nil) (.cons (.iff (.v (.isi [.int] (.var 1))) (.cons (.asg 2 false (.bin .add (.var 2) (.lst (.cons (.bin .add (.var 1) (.con (.int 1))) (.cons (.bin .sub (.var 1) (.con (.int 1))) (.cons (.not (.var 1)) (.cons (.bi .str (.cons (.var 1) .nil)) (.cons (.bin .add (.var 1) (.con (.int 13))) (.cons (.bin .mul (.con (.int 2)) (.var 1)) .nil))))))))) .nil) .nil) .nil)) (.cons (.ret (.callo (PySem.Str.ofString "_law_some") 0 (.cons (.var 2) .nil))) .nil))) .nil) (.cons (.par [(3, false), (4, false)] (.cons (.callo (PySem.Str.ofString "_law_under") 0 (.cons (.lenv 1) .nil)) (.cons (.callo (PySem.Str.ofString "_law_under") 0 (.cons (.con (.int 9)) .nil)) .nil))) (.cons (.iff (.v (.cmp .eq (.var 4) (.con (.int 0)))) (.cons (.ret (.bin .add (.sl (.var 1) .none (.some (.var 3))) (.sl (.var 1) (.some (.bin .add (.var 3) (.con (.int 1)))) .none))) .nil) .nil) (.cons (.iff (.v (.cmp .eq (.var 4) (.con (.int 1)))) (.cons (.ret (.bin .add (.sl (.var 1) .none (.some (.bin .add (.var 3) (.con (.int 1))))) (.sl (.var 1) (.some (.var 3)) .none))) .nil) .nil) (.cons (.iff (.v (.cmp .eq (.var 4) (.con (.int 2)))) (.cons (.ret (.rev (.var 1))) .nil) .nil) (.cons (.iff (.v (.cmp .eq (.var 4) (.con (.int 3)))) (.cons (.ret (.bi .list (.cons (.var 1) .nil))) .nil) .nil) (.cons (.ret (.bin .add (.bin .add (.sl (.var 1) .none (.some (.var 3))) (.tup (.cons (.callo (PySem.Str.ofString "_law_bent") 0 (.cons (.ixv 1 (.var 3)) .nil)) .nil))) (.sl (.var 1) (.some (.bin .add (.var 3) (.con (.int 1)))) .none))) .nil))))))) }
def m__law_judged : MF := { np := 1, ns := 3, own := false, body := (.cons (.asg 1 false (.call (PySem.Str.ofString "_law_is_contract") (.cons (.var 0) .nil))) (.cons (.iff (.not (.v (.call (PySem.Str.ofString "_law_truly") (.cons (.call (PySem.Str.ofString "is_contract") (.cons (.var 0) .nil)) (.cons (.var 1) .nil))))) (.cons (.ret (.con (.bl false))) .nil) .nil) (.cons (.iff (.and (.not (.v (.var 1))) (.v (.cmp .ne (.comp (.nm 2) (.v (.tup (.cons (.con (.fn (PySem.Str.ofString "rows"))) (.cons (.con (.fn (PySem.Str.ofString "mean"))) .nil)))) .none (.tryn (PySem.Str.ofString "_law_names") (.callv [(PySem.Str.ofString "rows"), (PySem.Str.ofString "mean")] 2 (.cons (.var 0) .nil))) [2]) (.bin .mul (.lst (.cons (.con (.str (PySem.Str.ofString "contract value"))) .nil)) (.con (.int 2)))))) (.cons (.ret (.con (.bl false))) .nil) .nil) (.cons (.ret (.call (PySem.Str.ofString "_law_truly") (.cons (.call (PySem.Str.ofString "is_person") (.cons (.var 0) .nil)) (.cons (.call (PySem.Str.ofString "_law_is_person") (.cons (.var 0) .nil)) .nil)))) .nil)))) }
def m__law_deep : MF := { np := 1, ns := 3, own := false, body := (.cons (.asg 1 false (.tup (.cons (.con (.str (PySem.Str.ofString "sure"))) (.cons (.con (.int 1)) .nil)))) (.cons (.forr (.nm 2) (.r1 (.bin .sub (.var 0) (.con (.int 1)))) (.cons (.asg 1 false (.ife (.v (.cmp .eq (.bin .mod (.var 2) (.con (.int 2))) (.con (.int 0)))) (.tup (.cons (.con (.str (PySem.Str.ofString "more"))) (.cons (.con (.int 1)) (.cons (.var 1) .nil)))) (.tup (.cons (.con (.str (PySem.Str.ofString "draw"))) (.cons (.tup (.cons (.tup (.cons (.con (.int 1)) (.cons (.var 1) .nil))) .nil)) .nil))))) .nil)) (.cons (.retv 1) .nil))) }
def m_law : MF := { np := 1, ns := 9, own := false, body := (.cons (.forr (.nm 1) (.r1 (.bi .max2 (.cons (.con (.int 6)) (.cons (.bi .min2 (.cons (.con (.int 14)) (.cons (.lenv 0) .nil))) .nil)))) (.cons (.asg 5 true (.call (PySem.Str.ofString "_law_vat") (.cons (.var 0) (.cons (.var 1) .nil)))) (.cons (.forr (.nm 6) (.v (.lst (.cons (.callo (PySem.Str.ofString "_law_small") 5 (.cons (.con (.int 3)) .nil)) (.cons (.callo (PySem.Str.ofString "_law_small") 5 (.cons (.con (.int 5)) .nil)) (.cons (.callo (PySem.Str.ofString "_law_person") 5 .nil) (.cons (.callo (PySem.Str.ofString "_law_odd") 5 (.cons (.con (.int 2)) .nil)) .nil)))))) (.cons (.asg 7 false (.var 6)) (.cons (.forr (.nm 8) (.r1 (.con (.int 16))) (.cons (.iff (.not (.v (.call (PySem.Str.ofString "_law_judged") (.cons (.var 7) .nil)))) (.cons (.ret (.con (.bl false))) .nil) .nil) (.cons (.asg 7 false (.callo (PySem.Str.ofString "_law_bent") 5 (.cons (.ife (.v (.cmp .eq (.bin .mod (.var 8) (.con (.int 3))) (.con (.int 0)))) (.var 6) (.var 7)) .nil))) .nil))) .nil))) .nil))) (.cons (.asg 2 false (.tup (.cons (.con (.str (PySem.Str.ofString "sure"))) (.cons (.con (.int 1)) .nil)))) (.cons (.asg 3 false (.lst (.cons (.call (PySem.Str.ofString "_law_deep") (.cons (.con (.int 6)) .nil)) (.cons (.tup (.cons (.con (.str (PySem.Str.ofString "draw"))) (.cons (.bin .mul (.tup (.cons (.tup (.cons (.con (.int 12)) (.cons (.var 2) .nil))) .nil)) (.con (.int 4))) .nil))) (.cons (.tup (.cons (.con (.str (PySem.Str.ofString "share"))) (.cons (.con (.int 0)) (.cons (.con (.int 12)) (.cons (.var 2) .nil))))) (.cons (.tup (.cons (.con (.str (PySem.Str.ofString "insured"))) (.cons (.con (.int 12)) (.cons (.con (.int 12)) (.cons (.neg (.con (.int 1000))) (.cons (.var 2) .nil)))))) (.cons (.tup (.cons (.con (.str (PySem.Str.ofString "sure"))) (.cons (.con (.int 1000)) .nil))) .nil))))))) (.cons (.asg 3 false (.bin .add (.var 3) (.lst (.cons (.call (PySem.Str.ofString "_law_deep") (.cons (.con (.int 7)) .nil)) (.cons (.tup (.cons (.con (.str (PySem.Str.ofString "draw"))) (.cons (.tup (.cons (.tup (.cons (.con (.int 13)) (.cons (.var 2) .nil))) .nil)) .nil))) (.cons (.tup (.cons (.con (.str (PySem.Str.ofString "draw"))) (.cons (.bin .mul (.tup (.cons (.tup (.cons (.con (.int 1)) (.cons (.var 2) .nil))) .nil)) (.con (.int 5))) .nil))) (.cons (.tup (.cons (.con (.str (PySem.Str.ofString "draw"))) (.cons (.tup .nil) .nil))) (.cons (.tup (.cons (.con (.str (PySem.Str.ofString "share"))) (.cons (.con (.int 1)) (.cons (.con (.int 0)) (.cons (.var 2) .nil))))) (.cons (.tup (.cons (.con (.str (PySem.Str.ofString "sure"))) (.cons (.con (.int 1001)) .nil))) .nil))))))))) (.cons (.asg 3 false (.bin .add (.var 3) (.lst (.cons (.tup (.cons (.con (.str (PySem.Str.ofString "insured"))) (.cons (.con (.int 2)) (.cons (.con (.int 1)) (.cons (.con (.int 0)) (.cons (.var 2) .nil)))))) (.cons (.tup (.cons (.con (.str (PySem.Str.ofString "cap"))) (.cons (.var 2) (.cons (.con (.int 3)) .nil)))) (.cons (.tup (.cons (.con (.str (PySem.Str.ofString "sure"))) (.cons (.con (.bl true)) .nil))) (.cons (.tup (.cons (.con (.str (PySem.Str.ofString "share"))) (.cons (.con (.int 13)) (.cons (.con (.int 1)) (.cons (.var 2) .nil))))) (.cons (.tup (.cons (.con (.str (PySem.Str.ofString "draw"))) (.cons (.lst (.cons (.tup (.cons (.con (.int 1)) (.cons (.var 2) .nil))) .nil)) .nil))) .nil)))))))) (.cons (.iff (.v (.cmp .ne (.comp (.nm 6) (.v (.var 3)) .none (.call (PySem.Str.ofString "is_contract") (.cons (.var 6) .nil)) [6]) (.bin .add (.bin .mul (.lst (.cons (.con (.bl true)) .nil)) (.con (.int 5))) (.bin .mul (.lst (.cons (.con (.bl false)) .nil)) (.con (.int 11)))))) (.cons (.ret (.con (.bl false))) .nil) .nil) (.cons (.asg 4 false (.tup (.cons (.con (.str (PySem.Str.ofString "draw"))) (.cons (.bin .mul (.tup (.cons (.tup (.cons (.con (.int 1)) (.cons (.tup (.cons (.con (.str (PySem.Str.ofString "draw"))) (.cons (.bin .mul (.tup (.cons (.tup (.cons (.con (.int 1)) (.cons (.var 2) .nil))) .nil)) (.con (.int 4))) .nil))) .nil))) .nil)) (.con (.int 3))) .nil)))) (.cons (.iff (.or (.v (.cmp .isnot (.call (PySem.Str.ofString "is_contract") (.cons (.var 4) .nil)) (.con (.bl true)))) (.v (.cmp .isnot (.call (PySem.Str.ofString "is_contract") (.cons (.tup (.cons (.con (.str (PySem.Str.ofString "draw"))) (.cons (.tup (.cons (.tup (.cons (.con (.int 1)) (.cons (.var 4) .nil))) (.cons (.tup (.cons (.con (.int 1)) (.cons (.var 2) .nil))) .nil))) .nil))) .nil)) (.con (.bl false))))) (.cons (.ret (.con (.bl false))) .nil) .nil) (.cons (.asg 3 false (.lst (.cons (.tup (.cons (.con (.int 1)) (.cons (.tup .nil) .nil))) (.cons (.tup (.cons (.con (.int 0)) (.cons (.tup (.cons (.tup (.cons (.tup (.cons (.con (.int 1)) (.cons (.con (.int 2)) .nil))) (.cons (.con (.int 1)) .nil))) .nil)) .nil))) (.cons (.tup (.cons (.bin .pow (.con (.int 10)) (.con (.int 60))) (.cons (.tup (.cons (.tup (.cons (.tup (.cons (.neg (.con (.int 1))) (.cons (.con (.int 1)) .nil))) (.cons (.con (.int 1)) .nil))) (.cons (.tup (.cons (.tup (.cons (.con (.int 0)) (.cons (.con (.int 1)) .nil))) (.cons (.bin .pow (.con (.int 10)) (.con (.int 60))) .nil))) .nil))) .nil))) (.cons (.tup (.cons (.con (.int 0)) (.cons (.tup .nil) .nil))) (.cons (.tup (.cons (.neg (.con (.int 1))) (.cons (.tup .nil) .nil))) (.cons (.tup (.cons (.con (.bl true)) (.cons (.tup .nil) .nil))) (.cons (.tup (.cons (.con (.int 1)) (.cons (.lst .nil) .nil))) .nil))))))))) (.cons (.asg 3 false (.bin .add (.var 3) (.lst (.cons (.tup (.cons (.con (.int 0)) (.cons (.tup (.cons (.tup (.cons (.tup (.cons (.con (.int 2)) (.cons (.con (.int 4)) .nil))) (.cons (.con (.int 1)) .nil))) .nil)) .nil))) (.cons (.tup (.cons (.con (.int 0)) (.cons (.tup (.cons (.tup (.cons (.tup (.cons (.con (.int 1)) (.cons (.con (.int 1)) .nil))) (.cons (.con (.int 0)) .nil))) .nil)) .nil))) (.cons (.tup (.cons (.con (.int 0)) (.cons (.tup (.cons (.tup (.cons (.tup (.cons (.con (.int 1)) (.cons (.con (.int 1)) .nil))) (.cons (.con (.int 1)) .nil))) (.cons (.tup (.cons (.tup (.cons (.con (.int 1)) (.cons (.con (.int 1)) .nil))) (.cons (.con (.int 1)) .nil))) .nil))) .nil))) (.cons (.tup (.cons (.con (.int 0)) (.cons (.tup (.cons (.tup (.cons (.tup (.cons (.con (.int 1)) (.cons (.con (.int 1)) .nil))) (.cons (.con (.int 1)) .nil))) (.cons (.tup (.cons (.tup (.cons (.con (.int 1)) (.cons (.con (.int 2)) .nil))) (.cons (.con (.int 1)) .nil))) .nil))) .nil))) .nil))))))) (.cons (.ret (.cmp .eq (.comp (.nm 6) (.v (.var 3)) .none (.call (PySem.Str.ofString "is_person") (.cons (.var 6) .nil)) [6]) (.bin .add (.bin .mul (.lst (.cons (.con (.bl true)) .nil)) (.con (.int 3))) (.bin .mul (.lst (.cons (.con (.bl false)) .nil)) (.con (.int 8)))))) .nil))))))))))) }
def tab0 : List (Str × MF) := [((PySem.Str.ofString "lowest"), m_lowest), ((PySem.Str.ofString "plus"), m_plus), ((PySem.Str.ofString "minus"), m_minus), ((PySem.Str.ofString "times"), m_times), ((PySem.Str.ofString "is_below"), m_is_below), ((PySem.Str.ofString "lesser"), m_lesser), ((PySem.Str.ofString "greater"), m_greater), ((PySem.Str.ofString "total"), m_total), ((PySem.Str.ofString "multiple_of"), m_multiple_of), ((PySem.Str.ofString "in_order"), m_in_order), ((PySem.Str.ofString "is_fraction"), m_is_fraction), ((PySem.Str.ofString "is_whole"), m_is_whole), ((PySem.Str.ofString "is_amount"), m_is_amount), ((PySem.Str.ofString "are_numbers"), m_are_numbers), ((PySem.Str.ofString "inner_values"), m_inner_values), ((PySem.Str.ofString "sure_count"), m_sure_count), ((PySem.Str.ofString "has_contract"), m_has_contract), ((PySem.Str.ofString "need_contract"), m_need_contract), ((PySem.Str.ofString "paid"), m_paid), ((PySem.Str.ofString "joined"), m_joined), ((PySem.Str.ofString "rows_of"), m_rows_of), ((PySem.Str.ofString "mean_of"), m_mean_of), ((PySem.Str.ofString "is_contract"), m_is_contract), ((PySem.Str.ofString "has_person"), m_has_person), ((PySem.Str.ofString "is_person"), m_is_person)]
def tab1 : List (Str × MF) := [((PySem.Str.ofString "rows"), m_rows), ((PySem.Str.ofString "mean"), m_mean), ((PySem.Str.ofString "_law_vat"), m__law_vat), ((PySem.Str.ofString "_law_under"), m__law_under), ((PySem.Str.ofString "_law_some"), m__law_some), ((PySem.Str.ofString "_law_is_whole"), m__law_is_whole), ((PySem.Str.ofString "_law_truly"), m__law_truly), ((PySem.Str.ofString "_law_low"), m__law_low), ((PySem.Str.ofString "_law_less"), m__law_less), ((PySem.Str.ofString "_law_ordered"), m__law_ordered), ((PySem.Str.ofString "_law_is_fraction"), m__law_is_fraction), ((PySem.Str.ofString "_law_shape"), m__law_shape), ((PySem.Str.ofString "_law_ends"), m__law_ends), ((PySem.Str.ofString "_law_is_contract"), m__law_is_contract), ((PySem.Str.ofString "_law_is_person"), m__law_is_person), ((PySem.Str.ofString "_law_contract"), m__law_contract), ((PySem.Str.ofString "_law_small"), m__law_small), ((PySem.Str.ofString "_law_person"), m__law_person), ((PySem.Str.ofString "_law_names"), m__law_names), ((PySem.Str.ofString "_law_odd"), m__law_odd), ((PySem.Str.ofString "_law_bent"), m__law_bent), ((PySem.Str.ofString "_law_judged"), m__law_judged), ((PySem.Str.ofString "_law_deep"), m__law_deep), ((PySem.Str.ofString "law"), m_law)]
def tab : List (Str × MF) := tab0 ++ tab1
def T : Tab := fun x => tab.lookup x
theorem T_lowest : T (PySem.Str.ofString "lowest") = some m_lowest := by unfold T; with_unfolding_all rfl
theorem T_plus : T (PySem.Str.ofString "plus") = some m_plus := by unfold T; with_unfolding_all rfl
theorem T_minus : T (PySem.Str.ofString "minus") = some m_minus := by unfold T; with_unfolding_all rfl
theorem T_times : T (PySem.Str.ofString "times") = some m_times := by unfold T; with_unfolding_all rfl
theorem T_is_below : T (PySem.Str.ofString "is_below") = some m_is_below := by unfold T; with_unfolding_all rfl
theorem T_lesser : T (PySem.Str.ofString "lesser") = some m_lesser := by unfold T; with_unfolding_all rfl
theorem T_greater : T (PySem.Str.ofString "greater") = some m_greater := by unfold T; with_unfolding_all rfl
theorem T_total : T (PySem.Str.ofString "total") = some m_total := by unfold T; with_unfolding_all rfl
theorem T_multiple_of : T (PySem.Str.ofString "multiple_of") = some m_multiple_of := by unfold T; with_unfolding_all rfl
theorem T_in_order : T (PySem.Str.ofString "in_order") = some m_in_order := by unfold T; with_unfolding_all rfl
theorem T_is_fraction : T (PySem.Str.ofString "is_fraction") = some m_is_fraction := by unfold T; with_unfolding_all rfl
theorem T_is_whole : T (PySem.Str.ofString "is_whole") = some m_is_whole := by unfold T; with_unfolding_all rfl
theorem T_is_amount : T (PySem.Str.ofString "is_amount") = some m_is_amount := by unfold T; with_unfolding_all rfl
theorem T_are_numbers : T (PySem.Str.ofString "are_numbers") = some m_are_numbers := by unfold T; with_unfolding_all rfl
theorem T_inner_values : T (PySem.Str.ofString "inner_values") = some m_inner_values := by unfold T; with_unfolding_all rfl
theorem T_sure_count : T (PySem.Str.ofString "sure_count") = some m_sure_count := by unfold T; with_unfolding_all rfl
theorem T_has_contract : T (PySem.Str.ofString "has_contract") = some m_has_contract := by unfold T; with_unfolding_all rfl
theorem T_need_contract : T (PySem.Str.ofString "need_contract") = some m_need_contract := by unfold T; with_unfolding_all rfl
theorem T_paid : T (PySem.Str.ofString "paid") = some m_paid := by unfold T; with_unfolding_all rfl
theorem T_joined : T (PySem.Str.ofString "joined") = some m_joined := by unfold T; with_unfolding_all rfl
theorem T_rows_of : T (PySem.Str.ofString "rows_of") = some m_rows_of := by unfold T; with_unfolding_all rfl
theorem T_mean_of : T (PySem.Str.ofString "mean_of") = some m_mean_of := by unfold T; with_unfolding_all rfl
theorem T_is_contract : T (PySem.Str.ofString "is_contract") = some m_is_contract := by unfold T; with_unfolding_all rfl
theorem T_has_person : T (PySem.Str.ofString "has_person") = some m_has_person := by unfold T; with_unfolding_all rfl
theorem T_is_person : T (PySem.Str.ofString "is_person") = some m_is_person := by unfold T; with_unfolding_all rfl
theorem T_rows : T (PySem.Str.ofString "rows") = some m_rows := by unfold T; with_unfolding_all rfl
theorem T_mean : T (PySem.Str.ofString "mean") = some m_mean := by unfold T; with_unfolding_all rfl
theorem T__law_vat : T (PySem.Str.ofString "_law_vat") = some m__law_vat := by unfold T; with_unfolding_all rfl
theorem T__law_under : T (PySem.Str.ofString "_law_under") = some m__law_under := by unfold T; with_unfolding_all rfl
theorem T__law_some : T (PySem.Str.ofString "_law_some") = some m__law_some := by unfold T; with_unfolding_all rfl
theorem T__law_is_whole : T (PySem.Str.ofString "_law_is_whole") = some m__law_is_whole := by unfold T; with_unfolding_all rfl
theorem T__law_truly : T (PySem.Str.ofString "_law_truly") = some m__law_truly := by unfold T; with_unfolding_all rfl
theorem T__law_low : T (PySem.Str.ofString "_law_low") = some m__law_low := by unfold T; with_unfolding_all rfl
theorem T__law_less : T (PySem.Str.ofString "_law_less") = some m__law_less := by unfold T; with_unfolding_all rfl
theorem T__law_ordered : T (PySem.Str.ofString "_law_ordered") = some m__law_ordered := by unfold T; with_unfolding_all rfl
theorem T__law_is_fraction : T (PySem.Str.ofString "_law_is_fraction") = some m__law_is_fraction := by unfold T; with_unfolding_all rfl
theorem T__law_shape : T (PySem.Str.ofString "_law_shape") = some m__law_shape := by unfold T; with_unfolding_all rfl
theorem T__law_ends : T (PySem.Str.ofString "_law_ends") = some m__law_ends := by unfold T; with_unfolding_all rfl
theorem T__law_is_contract : T (PySem.Str.ofString "_law_is_contract") = some m__law_is_contract := by unfold T; with_unfolding_all rfl
theorem T__law_is_person : T (PySem.Str.ofString "_law_is_person") = some m__law_is_person := by unfold T; with_unfolding_all rfl
theorem T__law_contract : T (PySem.Str.ofString "_law_contract") = some m__law_contract := by unfold T; with_unfolding_all rfl
theorem T__law_small : T (PySem.Str.ofString "_law_small") = some m__law_small := by unfold T; with_unfolding_all rfl
theorem T__law_person : T (PySem.Str.ofString "_law_person") = some m__law_person := by unfold T; with_unfolding_all rfl
theorem T__law_names : T (PySem.Str.ofString "_law_names") = some m__law_names := by unfold T; with_unfolding_all rfl
theorem T__law_odd : T (PySem.Str.ofString "_law_odd") = some m__law_odd := by unfold T; with_unfolding_all rfl
theorem T__law_bent : T (PySem.Str.ofString "_law_bent") = some m__law_bent := by unfold T; with_unfolding_all rfl
theorem T__law_judged : T (PySem.Str.ofString "_law_judged") = some m__law_judged := by unfold T; with_unfolding_all rfl
theorem T__law_deep : T (PySem.Str.ofString "_law_deep") = some m__law_deep := by unfold T; with_unfolding_all rfl
theorem T_law : T (PySem.Str.ofString "law") = some m_law := by unfold T; with_unfolding_all rfl
end K01

end
section
set_option Elab.async false
set_option linter.all false
set_option maxRecDepth 100000
set_option maxHeartbeats 0
namespace HK01
open PySem PySem.Spec PyProof.Rows MP K01
def g0 : Gs := { N := [], own := [], dic := [], con := [((Str.ofString "NONE"), (.tup [(.int 0), (.int 1)])), ((Str.ofString "WHOLE"), (.tup [(.int 1), (.int 1)])), ((Str.ofString "MOST_AMOUNT"), (.int 1000)), ((Str.ofString "MOST_DEEP"), (.int 6)), ((Str.ofString "MOST_SURE"), (.int 12))], fns := [((Str.ofString "lowest"), false), ((Str.ofString "plus"), false), ((Str.ofString "minus"), false), ((Str.ofString "times"), false), ((Str.ofString "is_below"), false), ((Str.ofString "lesser"), false), ((Str.ofString "greater"), false), ((Str.ofString "total"), false), ((Str.ofString "multiple_of"), false), ((Str.ofString "in_order"), false), ((Str.ofString "is_fraction"), false), ((Str.ofString "is_whole"), false), ((Str.ofString "is_amount"), false), ((Str.ofString "are_numbers"), false), ((Str.ofString "inner_values"), false), ((Str.ofString "sure_count"), false), ((Str.ofString "has_contract"), false), ((Str.ofString "need_contract"), false), ((Str.ofString "paid"), false), ((Str.ofString "joined"), false), ((Str.ofString "rows_of"), false), ((Str.ofString "mean_of"), false), ((Str.ofString "is_contract"), false), ((Str.ofString "has_person"), false), ((Str.ofString "is_person"), false), ((Str.ofString "rows"), false), ((Str.ofString "mean"), false), ((Str.ofString "_law_vat"), false), ((Str.ofString "_law_under"), true), ((Str.ofString "_law_some"), true), ((Str.ofString "_law_is_whole"), false), ((Str.ofString "_law_truly"), false), ((Str.ofString "_law_low"), false), ((Str.ofString "_law_less"), false), ((Str.ofString "_law_ordered"), false), ((Str.ofString "_law_is_fraction"), false), ((Str.ofString "_law_shape"), false), ((Str.ofString "_law_ends"), false), ((Str.ofString "_law_is_contract"), false), ((Str.ofString "_law_is_person"), false), ((Str.ofString "_law_contract"), true), ((Str.ofString "_law_small"), true), ((Str.ofString "_law_person"), true), ((Str.ofString "_law_odd"), true), ((Str.ofString "_law_bent"), true), ((Str.ofString "_law_judged"), false), ((Str.ofString "_law_deep"), false), ((Str.ofString "law"), false)], tabs := [((Str.ofString "PLACES"), [((Str.ofString "sure"), 2), ((Str.ofString "draw"), 2), ((Str.ofString "cap"), 3), ((Str.ofString "floor"), 3), ((Str.ofString "more"), 3), ((Str.ofString "share"), 4), ((Str.ofString "insured"), 5)])], free := [(Str.ofString "ValueError"), (Str.ofString "abs"), (Str.ofString "bool"), (Str.ofString "int"), (Str.ofString "isinstance"), (Str.ofString "len"), (Str.ofString "list"), (Str.ofString "max"), (Str.ofString "min"), (Str.ofString "range"), (Str.ofString "set"), (Str.ofString "sorted"), (Str.ofString "str"), (Str.ofString "sum"), (Str.ofString "tuple"), (Str.ofString "zip")], exs := [(Str.ofString "InvalidContract")], err := [((Str.ofString "_law_error"), (Str.ofString "_law_names"))], vals := [(Str.ofString "rows"), (Str.ofString "mean")] }
section
variable {w : World} {h : Heap} {K : PySem.W.Frag} {mg : Str → Option Value}
theorem mg_glo (KX : K.In h) (G : h.Ns mainGlobals mg) (c : He.SaysX fa fn ts tf ex w h K) {x : Str} (hx : He.Fa.glo x ∈ fa) : mg x = some (.ref (He.ga K x)) := He.glo_ok KX G (c.t.d.facts hx)
theorem glb (KX : K.In h) (G : h.Ns mainGlobals mg) (c : He.SaysX fa fn ts tf ex w h K) : GlbS g0 T K w mg := by
  have hex := c.more
  unfold ex at hex
  simp only [Bool.and_eq_true] at hex
  refine ⟨?c1, ?c2, ?c3, ?c4, ?c5, ?c6⟩
  case c1 =>
    intro x d hd
    have hd := mem_of_lookup hd
    simp only [g0, List.mem_cons, List.not_mem_nil, or_false, Prod.mk.injEq] at hd
    rcases hd with ⟨rfl, rfl⟩ | ⟨rfl, rfl⟩ | ⟨rfl, rfl⟩ | ⟨rfl, rfl⟩ | ⟨rfl, rfl⟩
    · exact ⟨.ref _, _, mg_glo KX G c (by simp [fa, fa0, fa1, fa2, fa3]), rfl, fun F => .tup (He.tupB_ok (hex.1) F) (RpL.ints [0, 1])⟩
    · exact ⟨.ref _, _, mg_glo KX G c (by simp [fa, fa0, fa1, fa2, fa3]), rfl, fun F => .tup (He.tupB_ok (hex.2.1) F) (RpL.ints [1, 1])⟩
    · obtain ⟨t, e⟩ := He.int_ok KX G (c.t.d.facts (f := .int (Str.ofString "MOST_AMOUNT") 1000) (by simp [fa, fa0, fa1, fa2, fa3])); exact ⟨.int _, _, e, ⟨t, rfl⟩, fun F => .int _⟩
    · obtain ⟨t, e⟩ := He.int_ok KX G (c.t.d.facts (f := .int (Str.ofString "MOST_DEEP") 6) (by simp [fa, fa0, fa1, fa2, fa3])); exact ⟨.int _, _, e, ⟨t, rfl⟩, fun F => .int _⟩
    · obtain ⟨t, e⟩ := He.int_ok KX G (c.t.d.facts (f := .int (Str.ofString "MOST_SURE") 12) (by simp [fa, fa0, fa1, fa2, fa3])); exact ⟨.int _, _, e, ⟨t, rfl⟩, fun F => .int _⟩
  case c2 =>
    intro x d hd
    have hd := mem_of_lookup hd
    simp only [g0, List.mem_cons, List.not_mem_nil, or_false, Prod.mk.injEq] at hd
    rcases hd with ⟨rfl, rfl⟩
    · obtain ⟨es, n, D⟩ := c.t.tab 0 (t := (fun K => He.ga K (Str.ofString "PLACES"), [(Str.ofString "sure"), (Str.ofString "draw"), (Str.ofString "cap"), (Str.ofString "floor"), (Str.ofString "more"), (Str.ofString "share"), (Str.ofString "insured")])) rfl
      exact ⟨mg_glo KX G c (by simp [fa, fa0, fa1, fa2, fa3]), tabOk_of (hex.2.2.1) D⟩
  case c3 =>
    intro x hx
    refine He.free_ok KX G (c.t.d.facts ?_)
    have hx : x ∈ g0.free := by simpa using hx
    simp only [g0, List.mem_cons, List.not_mem_nil, or_false] at hx
    rcases hx with rfl | rfl | rfl | rfl | rfl | rfl | rfl | rfl | rfl | rfl | rfl | rfl | rfl | rfl | rfl | rfl <;> simp [fa, fa0, fa1, fa2, fa3]
  case c4 =>
    intro x own hx
    have e : (g0.fns.all fun p => match T p.1 with | some m => m.own == p.2 && m.hot.isEmpty | none => false) = true := by with_unfolding_all rfl
    have := List.all_eq_true.mp e _ (mem_of_lookup hx)
    cases e2 : T x with
    | none => rw [e2] at this; cases this
    | some m => rw [e2] at this; rw [Bool.and_eq_true] at this; exact ⟨m, rfl, eq_of_beq this.1, List.isEmpty_iff.mp this.2⟩
  case c5 =>
    intro x hx
    have hx : x ∈ g0.exs := by simpa using hx
    have h1 : He.Fa.glo x ∈ fa ∧ He.Fa.exc x ∈ fa := by
      simp only [g0, List.mem_cons, List.not_mem_nil, or_false] at hx
      rcases hx with rfl <;> simp [fa, fa0, fa1, fa2, fa3]
    obtain ⟨q1, q2, q3, q4⟩ := He.exc_ok (c.t.d.facts h1.2)
    exact ⟨q1, mg_glo KX G c h1.1, q2, q3, q4⟩
  case c6 =>
    intro ef nf hx
    have hd := mem_of_lookup hx
    simp only [g0, List.mem_cons, List.not_mem_nil, or_false, Prod.mk.injEq] at hd
    obtain ⟨rfl, rfl⟩ := hd
    obtain ⟨fde, Fe⟩ := c.t.d.defs (d := d__law_error) (by simp [fn, fn0, fn1])
    obtain ⟨fdf, Ff⟩ := c.t.d.defs (d := d__law_names) (by simp [fn, fn0, fn1])
    have Be : L2.Binds K fde [(Str.ofString "call")] [] := L2.FunD.bindsN Fe fun _ _ _ _ _ _ us hl => match us, hl with | [_], _ => rfl
    have Bf : L2.Binds K fdf [(Str.ofString "e")] [] := L2.FunD.bindsN Ff fun _ _ _ _ _ _ us hl => match us, hl with | [_], _ => rfl
    have fr : ∀ y, He.Fa.free y ∈ fa → mg y = none := fun y hy => He.free_ok KX G (c.t.d.facts hy)
    obtain ⟨HF, HE⟩ := hotB_ok (mg := mg) (hex.2.2.2.1) (fr _ (by simp [fa, fa0, fa1, fa2, fa3])) (fr _ (by simp [fa, fa0, fa1, fa2, fa3]))
      (fun x hx => by
        simp only [List.mem_cons, List.not_mem_nil, or_false] at hx
        rcases hx with rfl | rfl | rfl | rfl | rfl | rfl | rfl | rfl <;> exact mg_glo KX G c (by simp [fa, fa0, fa1, fa2, fa3]))
      (fun x hx => by
        simp only [List.mem_cons, List.not_mem_nil, or_false] at hx
        rcases hx with rfl <;> exact ⟨fr _ (by simp [fa, fa0, fa1, fa2, fa3]), by rfl⟩)
    exact ⟨⟨_, _, _, _, L2.defScope (top 63), L2.defScope (top 62), fde, fdf, [(Str.ofString "call"), (Str.ofString "e")], [(Str.ofString "e"), (Str.ofString "some"), (Str.ofString "labels"), (Str.ofString "word"), (Str.ofString "good")], _, _, (Str.ofString "call"), (Str.ofString "e"), (Str.ofString "CautionError"), _, m__law_names, Fe, Ff, by kernel_rfl, rfl, mg_glo KX G c (by simp [fa, fa0, fa1, fa2, fa3]), mg_glo KX G c (by simp [fa, fa0, fa1, fa2, fa3]), mg_glo KX G c (by simp [fa, fa0, fa1, fa2, fa3]), HE, T__law_names, Be,
      ⟨rfl, rfl, rfl, by decide +kernel, rfl, by decide +kernel, by decide +kernel⟩, ⟨rfl, rfl, rfl, by decide +kernel, rfl, by decide +kernel, by decide +kernel⟩, Bf, rfl, by decide, rfl, by kernel_rfl, HF⟩⟩
theorem tf_ok (c : He.SaysX fa fn ts tf ex w h K) : (tf.map fun p => (He.cT K p).2).Nodup := by
  have hex := c.more
  unfold ex at hex
  simp only [Bool.and_eq_true] at hex
  exact of_decide_eq_true (hex.2.2.2.2)
theorem at_lowest (KX : K.In h) (G : h.Ns mainGlobals mg) (c : He.SaysX fa fn ts tf ex w h K) : ∃ fd, DefAt T K w mg tf (Str.ofString "lowest") m_lowest fd [(Str.ofString "top"), (Str.ofString "below")] := by
  obtain ⟨fd, F⟩ := c.t.d.defs (d := d_lowest) (by simp [fn, fn0, fn1])
  have B : L2.Binds K fd [(Str.ofString "top"), (Str.ofString "below")] [] := L2.FunD.bindsN F fun _ _ _ _ _ _ us hl => match us, hl with | [_, _], _ => rfl
  exact ⟨fd, { g0 with N := [(Str.ofString "top"), (Str.ofString "below"), (Str.ofString "one"), (Str.ofString "other")], own := [], dic := [], lam := false }, L2.defScope (top 13), L2.defArgs (top 13), L2.defBody (top 13), (Str.ofString "lowest"), F, mg_glo KX G c (by simp [fa, fa0, fa1, fa2, fa3]), B, ⟨rfl, rfl, rfl, by decide +kernel, rfl, by decide +kernel, by decide +kernel⟩, rfl, rfl, by decide, by kernel_rfl, let G0 := glb KX G c; ⟨G0.con, G0.tabs, G0.free, G0.fns, G0.exs, G0.err⟩, rfl, fun z => by cases z⟩
theorem at_plus (KX : K.In h) (G : h.Ns mainGlobals mg) (c : He.SaysX fa fn ts tf ex w h K) : ∃ fd, DefAt T K w mg tf (Str.ofString "plus") m_plus fd [(Str.ofString "one"), (Str.ofString "other")] := by
  obtain ⟨fd, F⟩ := c.t.d.defs (d := d_plus) (by simp [fn, fn0, fn1])
  have B : L2.Binds K fd [(Str.ofString "one"), (Str.ofString "other")] [] := L2.FunD.bindsN F fun _ _ _ _ _ _ us hl => match us, hl with | [_, _], _ => rfl
  exact ⟨fd, { g0 with N := [(Str.ofString "one"), (Str.ofString "other")], own := [], dic := [], lam := false }, L2.defScope (top 14), L2.defArgs (top 14), L2.defBody (top 14), (Str.ofString "plus"), F, mg_glo KX G c (by simp [fa, fa0, fa1, fa2, fa3]), B, ⟨rfl, rfl, rfl, by decide +kernel, rfl, by decide +kernel, by decide +kernel⟩, rfl, rfl, by decide, by kernel_rfl, let G0 := glb KX G c; ⟨G0.con, G0.tabs, G0.free, G0.fns, G0.exs, G0.err⟩, rfl, fun z => by cases z⟩
theorem at_minus (KX : K.In h) (G : h.Ns mainGlobals mg) (c : He.SaysX fa fn ts tf ex w h K) : ∃ fd, DefAt T K w mg tf (Str.ofString "minus") m_minus fd [(Str.ofString "one"), (Str.ofString "other")] := by
  obtain ⟨fd, F⟩ := c.t.d.defs (d := d_minus) (by simp [fn, fn0, fn1])
  have B : L2.Binds K fd [(Str.ofString "one"), (Str.ofString "other")] [] := L2.FunD.bindsN F fun _ _ _ _ _ _ us hl => match us, hl with | [_, _], _ => rfl
  exact ⟨fd, { g0 with N := [(Str.ofString "one"), (Str.ofString "other")], own := [], dic := [], lam := false }, L2.defScope (top 15), L2.defArgs (top 15), L2.defBody (top 15), (Str.ofString "minus"), F, mg_glo KX G c (by simp [fa, fa0, fa1, fa2, fa3]), B, ⟨rfl, rfl, rfl, by decide +kernel, rfl, by decide +kernel, by decide +kernel⟩, rfl, rfl, by decide, by kernel_rfl, let G0 := glb KX G c; ⟨G0.con, G0.tabs, G0.free, G0.fns, G0.exs, G0.err⟩, rfl, fun z => by cases z⟩
theorem at_times (KX : K.In h) (G : h.Ns mainGlobals mg) (c : He.SaysX fa fn ts tf ex w h K) : ∃ fd, DefAt T K w mg tf (Str.ofString "times") m_times fd [(Str.ofString "one"), (Str.ofString "other")] := by
  obtain ⟨fd, F⟩ := c.t.d.defs (d := d_times) (by simp [fn, fn0, fn1])
  have B : L2.Binds K fd [(Str.ofString "one"), (Str.ofString "other")] [] := L2.FunD.bindsN F fun _ _ _ _ _ _ us hl => match us, hl with | [_, _], _ => rfl
  exact ⟨fd, { g0 with N := [(Str.ofString "one"), (Str.ofString "other")], own := [], dic := [], lam := false }, L2.defScope (top 16), L2.defArgs (top 16), L2.defBody (top 16), (Str.ofString "times"), F, mg_glo KX G c (by simp [fa, fa0, fa1, fa2, fa3]), B, ⟨rfl, rfl, rfl, by decide +kernel, rfl, by decide +kernel, by decide +kernel⟩, rfl, rfl, by decide, by kernel_rfl, let G0 := glb KX G c; ⟨G0.con, G0.tabs, G0.free, G0.fns, G0.exs, G0.err⟩, rfl, fun z => by cases z⟩
theorem at_is_below (KX : K.In h) (G : h.Ns mainGlobals mg) (c : He.SaysX fa fn ts tf ex w h K) : ∃ fd, DefAt T K w mg tf (Str.ofString "is_below") m_is_below fd [(Str.ofString "one"), (Str.ofString "other")] := by
  obtain ⟨fd, F⟩ := c.t.d.defs (d := d_is_below) (by simp [fn, fn0, fn1])
  have B : L2.Binds K fd [(Str.ofString "one"), (Str.ofString "other")] [] := L2.FunD.bindsN F fun _ _ _ _ _ _ us hl => match us, hl with | [_, _], _ => rfl
  exact ⟨fd, { g0 with N := [(Str.ofString "one"), (Str.ofString "other")], own := [], dic := [], lam := false }, L2.defScope (top 17), L2.defArgs (top 17), L2.defBody (top 17), (Str.ofString "is_below"), F, mg_glo KX G c (by simp [fa, fa0, fa1, fa2, fa3]), B, ⟨rfl, rfl, rfl, by decide +kernel, rfl, by decide +kernel, by decide +kernel⟩, rfl, rfl, by decide, by kernel_rfl, let G0 := glb KX G c; ⟨G0.con, G0.tabs, G0.free, G0.fns, G0.exs, G0.err⟩, rfl, fun z => by cases z⟩
theorem at_lesser (KX : K.In h) (G : h.Ns mainGlobals mg) (c : He.SaysX fa fn ts tf ex w h K) : ∃ fd, DefAt T K w mg tf (Str.ofString "lesser") m_lesser fd [(Str.ofString "one"), (Str.ofString "other")] := by
  obtain ⟨fd, F⟩ := c.t.d.defs (d := d_lesser) (by simp [fn, fn0, fn1])
  have B : L2.Binds K fd [(Str.ofString "one"), (Str.ofString "other")] [] := L2.FunD.bindsN F fun _ _ _ _ _ _ us hl => match us, hl with | [_, _], _ => rfl
  exact ⟨fd, { g0 with N := [(Str.ofString "one"), (Str.ofString "other")], own := [], dic := [], lam := false }, L2.defScope (top 18), L2.defArgs (top 18), L2.defBody (top 18), (Str.ofString "lesser"), F, mg_glo KX G c (by simp [fa, fa0, fa1, fa2, fa3]), B, ⟨rfl, rfl, rfl, by decide +kernel, rfl, by decide +kernel, by decide +kernel⟩, rfl, rfl, by decide, by kernel_rfl, let G0 := glb KX G c; ⟨G0.con, G0.tabs, G0.free, G0.fns, G0.exs, G0.err⟩, rfl, fun z => by cases z⟩
theorem at_greater (KX : K.In h) (G : h.Ns mainGlobals mg) (c : He.SaysX fa fn ts tf ex w h K) : ∃ fd, DefAt T K w mg tf (Str.ofString "greater") m_greater fd [(Str.ofString "one"), (Str.ofString "other")] := by
  obtain ⟨fd, F⟩ := c.t.d.defs (d := d_greater) (by simp [fn, fn0, fn1])
  have B : L2.Binds K fd [(Str.ofString "one"), (Str.ofString "other")] [] := L2.FunD.bindsN F fun _ _ _ _ _ _ us hl => match us, hl with | [_, _], _ => rfl
  exact ⟨fd, { g0 with N := [(Str.ofString "one"), (Str.ofString "other")], own := [], dic := [], lam := false }, L2.defScope (top 19), L2.defArgs (top 19), L2.defBody (top 19), (Str.ofString "greater"), F, mg_glo KX G c (by simp [fa, fa0, fa1, fa2, fa3]), B, ⟨rfl, rfl, rfl, by decide +kernel, rfl, by decide +kernel, by decide +kernel⟩, rfl, rfl, by decide, by kernel_rfl, let G0 := glb KX G c; ⟨G0.con, G0.tabs, G0.free, G0.fns, G0.exs, G0.err⟩, rfl, fun z => by cases z⟩
theorem at_total (KX : K.In h) (G : h.Ns mainGlobals mg) (c : He.SaysX fa fn ts tf ex w h K) : ∃ fd, DefAt T K w mg tf (Str.ofString "total") m_total fd [(Str.ofString "some")] := by
  obtain ⟨fd, F⟩ := c.t.d.defs (d := d_total) (by simp [fn, fn0, fn1])
  have B : L2.Binds K fd [(Str.ofString "some")] [] := L2.FunD.bindsN F fun _ _ _ _ _ _ us hl => match us, hl with | [_], _ => rfl
  exact ⟨fd, { g0 with N := [(Str.ofString "some"), (Str.ofString "found"), (Str.ofString "one")], own := [], dic := [], lam := false }, L2.defScope (top 20), L2.defArgs (top 20), L2.defBody (top 20), (Str.ofString "total"), F, mg_glo KX G c (by simp [fa, fa0, fa1, fa2, fa3]), B, ⟨rfl, rfl, rfl, by decide +kernel, rfl, by decide +kernel, by decide +kernel⟩, rfl, rfl, by decide, by kernel_rfl, let G0 := glb KX G c; ⟨G0.con, G0.tabs, G0.free, G0.fns, G0.exs, G0.err⟩, rfl, fun z => by cases z⟩
theorem at_multiple_of (KX : K.In h) (G : h.Ns mainGlobals mg) (c : He.SaysX fa fn ts tf ex w h K) : ∃ fd, DefAt T K w mg tf (Str.ofString "multiple_of") m_multiple_of fd [(Str.ofString "some")] := by
  obtain ⟨fd, F⟩ := c.t.d.defs (d := d_multiple_of) (by simp [fn, fn0, fn1])
  have B : L2.Binds K fd [(Str.ofString "some")] [] := L2.FunD.bindsN F fun _ _ _ _ _ _ us hl => match us, hl with | [_], _ => rfl
  exact ⟨fd, { g0 with N := [(Str.ofString "some"), (Str.ofString "found"), (Str.ofString "top"), (Str.ofString "below")], own := [], dic := [], lam := false }, L2.defScope (top 21), L2.defArgs (top 21), L2.defBody (top 21), (Str.ofString "multiple_of"), F, mg_glo KX G c (by simp [fa, fa0, fa1, fa2, fa3]), B, ⟨rfl, rfl, rfl, by decide +kernel, rfl, by decide +kernel, by decide +kernel⟩, rfl, rfl, by decide, by kernel_rfl, let G0 := glb KX G c; ⟨G0.con, G0.tabs, G0.free, G0.fns, G0.exs, G0.err⟩, rfl, fun z => by cases z⟩
theorem at_in_order (KX : K.In h) (G : h.Ns mainGlobals mg) (c : He.SaysX fa fn ts tf ex w h K) : ∃ fd, DefAt T K w mg tf (Str.ofString "in_order") m_in_order fd [(Str.ofString "some")] := by
  obtain ⟨fd, F⟩ := c.t.d.defs (d := d_in_order) (by simp [fn, fn0, fn1])
  have B : L2.Binds K fd [(Str.ofString "some")] [] := L2.FunD.bindsN F fun _ _ _ _ _ _ us hl => match us, hl with | [_], _ => rfl
  exact ⟨fd, { g0 with N := [(Str.ofString "some"), (Str.ofString "below"), (Str.ofString "tops"), (Str.ofString "top"), (Str.ofString "one")], own := [], dic := [], lam := false }, L2.defScope (top 22), L2.defArgs (top 22), L2.defBody (top 22), (Str.ofString "in_order"), F, mg_glo KX G c (by simp [fa, fa0, fa1, fa2, fa3]), B, ⟨rfl, rfl, rfl, by decide +kernel, rfl, by decide +kernel, by decide +kernel⟩, rfl, rfl, by decide, by kernel_rfl, let G0 := glb KX G c; ⟨G0.con, G0.tabs, G0.free, G0.fns, G0.exs, G0.err⟩, rfl, fun z => by cases z⟩
theorem at_is_fraction (KX : K.In h) (G : h.Ns mainGlobals mg) (c : He.SaysX fa fn ts tf ex w h K) : ∃ fd, DefAt T K w mg tf (Str.ofString "is_fraction") m_is_fraction fd [(Str.ofString "value")] := by
  obtain ⟨fd, F⟩ := c.t.d.defs (d := d_is_fraction) (by simp [fn, fn0, fn1])
  have B : L2.Binds K fd [(Str.ofString "value")] [] := L2.FunD.bindsN F fun _ _ _ _ _ _ us hl => match us, hl with | [_], _ => rfl
  exact ⟨fd, { g0 with N := [(Str.ofString "value"), (Str.ofString "part")], own := [], dic := [], lam := false }, L2.defScope (top 23), L2.defArgs (top 23), L2.defBody (top 23), (Str.ofString "is_fraction"), F, mg_glo KX G c (by simp [fa, fa0, fa1, fa2, fa3]), B, ⟨rfl, rfl, rfl, by decide +kernel, rfl, by decide +kernel, by decide +kernel⟩, rfl, rfl, by decide, by kernel_rfl, let G0 := glb KX G c; ⟨G0.con, G0.tabs, G0.free, G0.fns, G0.exs, G0.err⟩, rfl, fun z => by cases z⟩
theorem at_is_whole (KX : K.In h) (G : h.Ns mainGlobals mg) (c : He.SaysX fa fn ts tf ex w h K) : ∃ fd, DefAt T K w mg tf (Str.ofString "is_whole") m_is_whole fd [(Str.ofString "value"), (Str.ofString "low"), (Str.ofString "high")] := by
  obtain ⟨fd, F⟩ := c.t.d.defs (d := d_is_whole) (by simp [fn, fn0, fn1])
  have B : L2.Binds K fd [(Str.ofString "value"), (Str.ofString "low"), (Str.ofString "high")] [] := L2.FunD.bindsN F fun _ _ _ _ _ _ us hl => match us, hl with | [_, _, _], _ => rfl
  exact ⟨fd, { g0 with N := [(Str.ofString "value"), (Str.ofString "low"), (Str.ofString "high")], own := [], dic := [], lam := false }, L2.defScope (top 29), L2.defArgs (top 29), L2.defBody (top 29), (Str.ofString "is_whole"), F, mg_glo KX G c (by simp [fa, fa0, fa1, fa2, fa3]), B, ⟨rfl, rfl, rfl, by decide +kernel, rfl, by decide +kernel, by decide +kernel⟩, rfl, rfl, by decide, by kernel_rfl, let G0 := glb KX G c; ⟨G0.con, G0.tabs, G0.free, G0.fns, G0.exs, G0.err⟩, rfl, fun z => by cases z⟩
theorem at_is_amount (KX : K.In h) (G : h.Ns mainGlobals mg) (c : He.SaysX fa fn ts tf ex w h K) : ∃ fd, DefAt T K w mg tf (Str.ofString "is_amount") m_is_amount fd [(Str.ofString "value")] := by
  obtain ⟨fd, F⟩ := c.t.d.defs (d := d_is_amount) (by simp [fn, fn0, fn1])
  have B : L2.Binds K fd [(Str.ofString "value")] [] := L2.FunD.bindsN F fun _ _ _ _ _ _ us hl => match us, hl with | [_], _ => rfl
  exact ⟨fd, { g0 with N := [(Str.ofString "value")], own := [], dic := [], lam := false }, L2.defScope (top 30), L2.defArgs (top 30), L2.defBody (top 30), (Str.ofString "is_amount"), F, mg_glo KX G c (by simp [fa, fa0, fa1, fa2, fa3]), B, ⟨rfl, rfl, rfl, by decide +kernel, rfl, by decide +kernel, by decide +kernel⟩, rfl, rfl, by decide, by kernel_rfl, let G0 := glb KX G c; ⟨G0.con, G0.tabs, G0.free, G0.fns, G0.exs, G0.err⟩, rfl, fun z => by cases z⟩
theorem at_are_numbers (KX : K.In h) (G : h.Ns mainGlobals mg) (c : He.SaysX fa fn ts tf ex w h K) : ∃ fd, DefAt T K w mg tf (Str.ofString "are_numbers") m_are_numbers fd [(Str.ofString "value")] := by
  obtain ⟨fd, F⟩ := c.t.d.defs (d := d_are_numbers) (by simp [fn, fn0, fn1])
  have B : L2.Binds K fd [(Str.ofString "value")] [] := L2.FunD.bindsN F fun _ _ _ _ _ _ us hl => match us, hl with | [_], _ => rfl
  exact ⟨fd, { g0 with N := [(Str.ofString "value")], own := [], dic := [], lam := false }, L2.defScope (top 31), L2.defArgs (top 31), L2.defBody (top 31), (Str.ofString "are_numbers"), F, mg_glo KX G c (by simp [fa, fa0, fa1, fa2, fa3]), B, ⟨rfl, rfl, rfl, by decide +kernel, rfl, by decide +kernel, by decide +kernel⟩, rfl, rfl, by decide, by kernel_rfl, let G0 := glb KX G c; ⟨G0.con, G0.tabs, G0.free, G0.fns, G0.exs, G0.err⟩, rfl, fun z => by cases z⟩
theorem at_inner_values (KX : K.In h) (G : h.Ns mainGlobals mg) (c : He.SaysX fa fn ts tf ex w h K) : ∃ fd, DefAt T K w mg tf (Str.ofString "inner_values") m_inner_values fd [(Str.ofString "value")] := by
  obtain ⟨fd, F⟩ := c.t.d.defs (d := d_inner_values) (by simp [fn, fn0, fn1])
  have B : L2.Binds K fd [(Str.ofString "value")] [] := L2.FunD.bindsN F fun _ _ _ _ _ _ us hl => match us, hl with | [_], _ => rfl
  exact ⟨fd, { g0 with N := [(Str.ofString "value"), (Str.ofString "row")], own := [], dic := [], lam := false }, L2.defScope (top 32), L2.defArgs (top 32), L2.defBody (top 32), (Str.ofString "inner_values"), F, mg_glo KX G c (by simp [fa, fa0, fa1, fa2, fa3]), B, ⟨rfl, rfl, rfl, by decide +kernel, rfl, by decide +kernel, by decide +kernel⟩, rfl, rfl, by decide, by kernel_rfl, let G0 := glb KX G c; ⟨G0.con, G0.tabs, G0.free, G0.fns, G0.exs, G0.err⟩, rfl, fun z => by cases z⟩
theorem at_sure_count (KX : K.In h) (G : h.Ns mainGlobals mg) (c : He.SaysX fa fn ts tf ex w h K) : ∃ fd, DefAt T K w mg tf (Str.ofString "sure_count") m_sure_count fd [(Str.ofString "value"), (Str.ofString "deep")] := by
  obtain ⟨fd, F⟩ := c.t.d.defs (d := d_sure_count) (by simp [fn, fn0, fn1])
  have B : L2.Binds K fd [(Str.ofString "value"), (Str.ofString "deep")] [] := L2.FunD.bindsN F fun _ _ _ _ _ _ us hl => match us, hl with | [_, _], _ => rfl
  exact ⟨fd, { g0 with N := [(Str.ofString "value"), (Str.ofString "deep"), (Str.ofString "some"), (Str.ofString "found"), (Str.ofString "part"), (Str.ofString "count")], own := [], dic := [], lam := false }, L2.defScope (top 33), L2.defArgs (top 33), L2.defBody (top 33), (Str.ofString "sure_count"), F, mg_glo KX G c (by simp [fa, fa0, fa1, fa2, fa3]), B, ⟨rfl, rfl, rfl, by decide +kernel, rfl, by decide +kernel, by decide +kernel⟩, rfl, rfl, by decide, by kernel_rfl, let G0 := glb KX G c; ⟨G0.con, G0.tabs, G0.free, G0.fns, G0.exs, G0.err⟩, rfl, fun z => by cases z⟩
theorem at_has_contract (KX : K.In h) (G : h.Ns mainGlobals mg) (c : He.SaysX fa fn ts tf ex w h K) : ∃ fd, DefAt T K w mg tf (Str.ofString "has_contract") m_has_contract fd [(Str.ofString "value")] := by
  obtain ⟨fd, F⟩ := c.t.d.defs (d := d_has_contract) (by simp [fn, fn0, fn1])
  have B : L2.Binds K fd [(Str.ofString "value")] [] := L2.FunD.bindsN F fun _ _ _ _ _ _ us hl => match us, hl with | [_], _ => rfl
  exact ⟨fd, { g0 with N := [(Str.ofString "value"), (Str.ofString "count")], own := [], dic := [], lam := false }, L2.defScope (top 34), L2.defArgs (top 34), L2.defBody (top 34), (Str.ofString "has_contract"), F, mg_glo KX G c (by simp [fa, fa0, fa1, fa2, fa3]), B, ⟨rfl, rfl, rfl, by decide +kernel, rfl, by decide +kernel, by decide +kernel⟩, rfl, rfl, by decide, by kernel_rfl, let G0 := glb KX G c; ⟨G0.con, G0.tabs, G0.free, G0.fns, G0.exs, G0.err⟩, rfl, fun z => by cases z⟩
theorem at_need_contract (KX : K.In h) (G : h.Ns mainGlobals mg) (c : He.SaysX fa fn ts tf ex w h K) : ∃ fd, DefAt T K w mg tf (Str.ofString "need_contract") m_need_contract fd [(Str.ofString "contract")] := by
  obtain ⟨fd, F⟩ := c.t.d.defs (d := d_need_contract) (by simp [fn, fn0, fn1])
  have B : L2.Binds K fd [(Str.ofString "contract")] [] := L2.FunD.bindsN F fun _ _ _ _ _ _ us hl => match us, hl with | [_], _ => rfl
  exact ⟨fd, { g0 with N := [(Str.ofString "contract")], own := [], dic := [], lam := false }, L2.defScope (top 35), L2.defArgs (top 35), L2.defBody (top 35), (Str.ofString "need_contract"), F, mg_glo KX G c (by simp [fa, fa0, fa1, fa2, fa3]), B, ⟨rfl, rfl, rfl, by decide +kernel, rfl, by decide +kernel, by decide +kernel⟩, rfl, rfl, by decide, by kernel_rfl, let G0 := glb KX G c; ⟨G0.con, G0.tabs, G0.free, G0.fns, G0.exs, G0.err⟩, rfl, fun z => by cases z⟩
theorem at_paid (KX : K.In h) (G : h.Ns mainGlobals mg) (c : He.SaysX fa fn ts tf ex w h K) : ∃ fd, DefAt T K w mg tf (Str.ofString "paid") m_paid fd [(Str.ofString "contract"), (Str.ofString "amount")] := by
  obtain ⟨fd, F⟩ := c.t.d.defs (d := d_paid) (by simp [fn, fn0, fn1])
  have B : L2.Binds K fd [(Str.ofString "contract"), (Str.ofString "amount")] [] := L2.FunD.bindsN F fun _ _ _ _ _ _ us hl => match us, hl with | [_, _], _ => rfl
  exact ⟨fd, { g0 with N := [(Str.ofString "contract"), (Str.ofString "amount"), (Str.ofString "word"), (Str.ofString "part")], own := [], dic := [], lam := false }, L2.defScope (top 36), L2.defArgs (top 36), L2.defBody (top 36), (Str.ofString "paid"), F, mg_glo KX G c (by simp [fa, fa0, fa1, fa2, fa3]), B, ⟨rfl, rfl, rfl, by decide +kernel, rfl, by decide +kernel, by decide +kernel⟩, rfl, rfl, by decide, by kernel_rfl, let G0 := glb KX G c; ⟨G0.con, G0.tabs, G0.free, G0.fns, G0.exs, G0.err⟩, rfl, fun z => by cases z⟩
theorem at_joined (KX : K.In h) (G : h.Ns mainGlobals mg) (c : He.SaysX fa fn ts tf ex w h K) : ∃ fd, DefAt T K w mg tf (Str.ofString "joined") m_joined fd [(Str.ofString "pairs")] := by
  obtain ⟨fd, F⟩ := c.t.d.defs (d := d_joined) (by simp [fn, fn0, fn1])
  have B : L2.Binds K fd [(Str.ofString "pairs")] [] := L2.FunD.bindsN F fun _ _ _ _ _ _ us hl => match us, hl with | [_], _ => rfl
  exact ⟨fd, { g0 with N := [(Str.ofString "pairs"), (Str.ofString "found"), (Str.ofString "amount"), (Str.ofString "chance")], own := [], dic := [1], lam := false }, L2.defScope (top 37), L2.defArgs (top 37), L2.defBody (top 37), (Str.ofString "joined"), F, mg_glo KX G c (by simp [fa, fa0, fa1, fa2, fa3]), B, ⟨rfl, rfl, rfl, by decide +kernel, rfl, by decide +kernel, by decide +kernel⟩, rfl, rfl, by decide, by kernel_rfl, let G0 := glb KX G c; ⟨G0.con, G0.tabs, G0.free, G0.fns, G0.exs, G0.err⟩, rfl, fun z => by cases z⟩
theorem at_rows_of (KX : K.In h) (G : h.Ns mainGlobals mg) (c : He.SaysX fa fn ts tf ex w h K) : ∃ fd, DefAt T K w mg tf (Str.ofString "rows_of") m_rows_of fd [(Str.ofString "contract")] := by
  obtain ⟨fd, F⟩ := c.t.d.defs (d := d_rows_of) (by simp [fn, fn0, fn1])
  have B : L2.Binds K fd [(Str.ofString "contract")] [] := L2.FunD.bindsN F fun _ _ _ _ _ _ us hl => match us, hl with | [_], _ => rfl
  exact ⟨fd, { g0 with N := [(Str.ofString "contract"), (Str.ofString "whole"), (Str.ofString "pairs"), (Str.ofString "weight"), (Str.ofString "part"), (Str.ofString "amount"), (Str.ofString "chance")], own := [], dic := [], lam := false }, L2.defScope (top 38), L2.defArgs (top 38), L2.defBody (top 38), (Str.ofString "rows_of"), F, mg_glo KX G c (by simp [fa, fa0, fa1, fa2, fa3]), B, ⟨rfl, rfl, rfl, by decide +kernel, rfl, by decide +kernel, by decide +kernel⟩, rfl, rfl, by decide, by kernel_rfl, let G0 := glb KX G c; ⟨G0.con, G0.tabs, G0.free, G0.fns, G0.exs, G0.err⟩, rfl, fun z => by cases z⟩
theorem at_mean_of (KX : K.In h) (G : h.Ns mainGlobals mg) (c : He.SaysX fa fn ts tf ex w h K) : ∃ fd, DefAt T K w mg tf (Str.ofString "mean_of") m_mean_of fd [(Str.ofString "rows_so")] := by
  obtain ⟨fd, F⟩ := c.t.d.defs (d := d_mean_of) (by simp [fn, fn0, fn1])
  have B : L2.Binds K fd [(Str.ofString "rows_so")] [] := L2.FunD.bindsN F fun _ _ _ _ _ _ us hl => match us, hl with | [_], _ => rfl
  exact ⟨fd, { g0 with N := [(Str.ofString "rows_so"), (Str.ofString "amount"), (Str.ofString "chance")], own := [], dic := [], lam := false }, L2.defScope (top 39), L2.defArgs (top 39), L2.defBody (top 39), (Str.ofString "mean_of"), F, mg_glo KX G c (by simp [fa, fa0, fa1, fa2, fa3]), B, ⟨rfl, rfl, rfl, by decide +kernel, rfl, by decide +kernel, by decide +kernel⟩, rfl, rfl, by decide, by kernel_rfl, let G0 := glb KX G c; ⟨G0.con, G0.tabs, G0.free, G0.fns, G0.exs, G0.err⟩, rfl, fun z => by cases z⟩
theorem at_is_contract (KX : K.In h) (G : h.Ns mainGlobals mg) (c : He.SaysX fa fn ts tf ex w h K) : ∃ fd, DefAt T K w mg tf (Str.ofString "is_contract") m_is_contract fd [(Str.ofString "value")] := by
  obtain ⟨fd, F⟩ := c.t.d.defs (d := d_is_contract) (by simp [fn, fn0, fn1])
  have B : L2.Binds K fd [(Str.ofString "value")] [] := L2.FunD.bindsN F fun _ _ _ _ _ _ us hl => match us, hl with | [_], _ => rfl
  exact ⟨fd, { g0 with N := [(Str.ofString "value")], own := [], dic := [], lam := false }, L2.defScope (top 40), L2.defArgs (top 40), L2.defBody (top 40), (Str.ofString "is_contract"), F, mg_glo KX G c (by simp [fa, fa0, fa1, fa2, fa3]), B, ⟨rfl, rfl, rfl, by decide +kernel, rfl, by decide +kernel, by decide +kernel⟩, rfl, rfl, by decide, by kernel_rfl, let G0 := glb KX G c; ⟨G0.con, G0.tabs, G0.free, G0.fns, G0.exs, G0.err⟩, rfl, fun z => by cases z⟩
theorem at_has_person (KX : K.In h) (G : h.Ns mainGlobals mg) (c : He.SaysX fa fn ts tf ex w h K) : ∃ fd, DefAt T K w mg tf (Str.ofString "has_person") m_has_person fd [(Str.ofString "value")] := by
  obtain ⟨fd, F⟩ := c.t.d.defs (d := d_has_person) (by simp [fn, fn0, fn1])
  have B : L2.Binds K fd [(Str.ofString "value")] [] := L2.FunD.bindsN F fun _ _ _ _ _ _ us hl => match us, hl with | [_], _ => rfl
  exact ⟨fd, { g0 with N := [(Str.ofString "value"), (Str.ofString "knee"), (Str.ofString "bounds")], own := [], dic := [], lam := false }, L2.defScope (top 41), L2.defArgs (top 41), L2.defBody (top 41), (Str.ofString "has_person"), F, mg_glo KX G c (by simp [fa, fa0, fa1, fa2, fa3]), B, ⟨rfl, rfl, rfl, by decide +kernel, rfl, by decide +kernel, by decide +kernel⟩, rfl, rfl, by decide, by kernel_rfl, let G0 := glb KX G c; ⟨G0.con, G0.tabs, G0.free, G0.fns, G0.exs, G0.err⟩, rfl, fun z => by cases z⟩
theorem at_is_person (KX : K.In h) (G : h.Ns mainGlobals mg) (c : He.SaysX fa fn ts tf ex w h K) : ∃ fd, DefAt T K w mg tf (Str.ofString "is_person") m_is_person fd [(Str.ofString "value")] := by
  obtain ⟨fd, F⟩ := c.t.d.defs (d := d_is_person) (by simp [fn, fn0, fn1])
  have B : L2.Binds K fd [(Str.ofString "value")] [] := L2.FunD.bindsN F fun _ _ _ _ _ _ us hl => match us, hl with | [_], _ => rfl
  exact ⟨fd, { g0 with N := [(Str.ofString "value")], own := [], dic := [], lam := false }, L2.defScope (top 42), L2.defArgs (top 42), L2.defBody (top 42), (Str.ofString "is_person"), F, mg_glo KX G c (by simp [fa, fa0, fa1, fa2, fa3]), B, ⟨rfl, rfl, rfl, by decide +kernel, rfl, by decide +kernel, by decide +kernel⟩, rfl, rfl, by decide, by kernel_rfl, let G0 := glb KX G c; ⟨G0.con, G0.tabs, G0.free, G0.fns, G0.exs, G0.err⟩, rfl, fun z => by cases z⟩
theorem at_rows (KX : K.In h) (G : h.Ns mainGlobals mg) (c : He.SaysX fa fn ts tf ex w h K) : ∃ fd, DefAt T K w mg tf (Str.ofString "rows") m_rows fd [(Str.ofString "contract")] := by
  obtain ⟨fd, F⟩ := c.t.d.defs (d := d_rows) (by simp [fn, fn0, fn1])
  have B : L2.Binds K fd [(Str.ofString "contract")] [] := L2.FunD.bindsN F fun _ _ _ _ _ _ us hl => match us, hl with | [_], _ => rfl
  exact ⟨fd, { g0 with N := [(Str.ofString "contract")], own := [], dic := [], lam := false }, L2.defScope (top 43), L2.defArgs (top 43), L2.defBody (top 43), (Str.ofString "rows"), F, mg_glo KX G c (by simp [fa, fa0, fa1, fa2, fa3]), B, ⟨rfl, rfl, rfl, by decide +kernel, rfl, by decide +kernel, by decide +kernel⟩, rfl, rfl, by decide, by kernel_rfl, let G0 := glb KX G c; ⟨G0.con, G0.tabs, G0.free, G0.fns, G0.exs, G0.err⟩, rfl, fun z => by cases z⟩
theorem at_mean (KX : K.In h) (G : h.Ns mainGlobals mg) (c : He.SaysX fa fn ts tf ex w h K) : ∃ fd, DefAt T K w mg tf (Str.ofString "mean") m_mean fd [(Str.ofString "contract")] := by
  obtain ⟨fd, F⟩ := c.t.d.defs (d := d_mean) (by simp [fn, fn0, fn1])
  have B : L2.Binds K fd [(Str.ofString "contract")] [] := L2.FunD.bindsN F fun _ _ _ _ _ _ us hl => match us, hl with | [_], _ => rfl
  exact ⟨fd, { g0 with N := [(Str.ofString "contract")], own := [], dic := [], lam := false }, L2.defScope (top 44), L2.defArgs (top 44), L2.defBody (top 44), (Str.ofString "mean"), F, mg_glo KX G c (by simp [fa, fa0, fa1, fa2, fa3]), B, ⟨rfl, rfl, rfl, by decide +kernel, rfl, by decide +kernel, by decide +kernel⟩, rfl, rfl, by decide, by kernel_rfl, let G0 := glb KX G c; ⟨G0.con, G0.tabs, G0.free, G0.fns, G0.exs, G0.err⟩, rfl, fun z => by cases z⟩
theorem at__law_vat (KX : K.In h) (G : h.Ns mainGlobals mg) (c : He.SaysX fa fn ts tf ex w h K) : ∃ fd, DefAt T K w mg tf (Str.ofString "_law_vat") m__law_vat fd [(Str.ofString "script"), (Str.ofString "k")] := by
  obtain ⟨fd, F⟩ := c.t.d.defs (d := d__law_vat) (by simp [fn, fn0, fn1])
  have B : L2.Binds K fd [(Str.ofString "script"), (Str.ofString "k")] [] := L2.FunD.bindsN F fun _ _ _ _ _ _ us hl => match us, hl with | [_, _], _ => rfl
  exact ⟨fd, { g0 with N := [(Str.ofString "script"), (Str.ofString "k"), (Str.ofString "cell")], own := [], dic := [], lam := false }, L2.defScope (top 46), L2.defArgs (top 46), L2.defBody (top 46), (Str.ofString "_law_vat"), F, mg_glo KX G c (by simp [fa, fa0, fa1, fa2, fa3]), B, ⟨rfl, rfl, rfl, by decide +kernel, rfl, by decide +kernel, by decide +kernel⟩, rfl, rfl, by decide, by kernel_rfl, let G0 := glb KX G c; ⟨G0.con, G0.tabs, G0.free, G0.fns, G0.exs, G0.err⟩, rfl, fun z => by cases z⟩
theorem at__law_under (KX : K.In h) (G : h.Ns mainGlobals mg) (c : He.SaysX fa fn ts tf ex w h K) : ∃ fd, DefAt T K w mg tf (Str.ofString "_law_under") m__law_under fd [(Str.ofString "vat"), (Str.ofString "many")] := by
  obtain ⟨fd, F⟩ := c.t.d.defs (d := d__law_under) (by simp [fn, fn0, fn1])
  have B : L2.Binds K fd [(Str.ofString "vat"), (Str.ofString "many")] [] := L2.FunD.bindsN F fun _ _ _ _ _ _ us hl => match us, hl with | [_, _], _ => rfl
  exact ⟨fd, { g0 with N := [(Str.ofString "vat"), (Str.ofString "many"), (Str.ofString "wide"), (Str.ofString "found")], own := [0], dic := [], lam := false }, L2.defScope (top 47), L2.defArgs (top 47), L2.defBody (top 47), (Str.ofString "_law_under"), F, mg_glo KX G c (by simp [fa, fa0, fa1, fa2, fa3]), B, ⟨rfl, rfl, rfl, by decide +kernel, rfl, by decide +kernel, by decide +kernel⟩, rfl, rfl, by decide, by kernel_rfl, let G0 := glb KX G c; ⟨G0.con, G0.tabs, G0.free, G0.fns, G0.exs, G0.err⟩, rfl, fun z => by cases z⟩
theorem at__law_some (KX : K.In h) (G : h.Ns mainGlobals mg) (c : He.SaysX fa fn ts tf ex w h K) : ∃ fd, DefAt T K w mg tf (Str.ofString "_law_some") m__law_some fd [(Str.ofString "vat"), (Str.ofString "things")] := by
  obtain ⟨fd, F⟩ := c.t.d.defs (d := d__law_some) (by simp [fn, fn0, fn1])
  have B : L2.Binds K fd [(Str.ofString "vat"), (Str.ofString "things")] [] := L2.FunD.bindsN F fun _ _ _ _ _ _ us hl => match us, hl with | [_, _], _ => rfl
  exact ⟨fd, { g0 with N := [(Str.ofString "vat"), (Str.ofString "things")], own := [0], dic := [], lam := false }, L2.defScope (top 48), L2.defArgs (top 48), L2.defBody (top 48), (Str.ofString "_law_some"), F, mg_glo KX G c (by simp [fa, fa0, fa1, fa2, fa3]), B, ⟨rfl, rfl, rfl, by decide +kernel, rfl, by decide +kernel, by decide +kernel⟩, rfl, rfl, by decide, by kernel_rfl, let G0 := glb KX G c; ⟨G0.con, G0.tabs, G0.free, G0.fns, G0.exs, G0.err⟩, rfl, fun z => by cases z⟩
theorem at__law_is_whole (KX : K.In h) (G : h.Ns mainGlobals mg) (c : He.SaysX fa fn ts tf ex w h K) : ∃ fd, DefAt T K w mg tf (Str.ofString "_law_is_whole") m__law_is_whole fd [(Str.ofString "value"), (Str.ofString "low"), (Str.ofString "high")] := by
  obtain ⟨fd, F⟩ := c.t.d.defs (d := d__law_is_whole) (by simp [fn, fn0, fn1])
  have B : L2.Binds K fd [(Str.ofString "value"), (Str.ofString "low"), (Str.ofString "high")] [] := L2.FunD.bindsN F fun _ _ _ _ _ _ us hl => match us, hl with | [_, _, _], _ => rfl
  exact ⟨fd, { g0 with N := [(Str.ofString "value"), (Str.ofString "low"), (Str.ofString "high")], own := [], dic := [], lam := false }, L2.defScope (top 49), L2.defArgs (top 49), L2.defBody (top 49), (Str.ofString "_law_is_whole"), F, mg_glo KX G c (by simp [fa, fa0, fa1, fa2, fa3]), B, ⟨rfl, rfl, rfl, by decide +kernel, rfl, by decide +kernel, by decide +kernel⟩, rfl, rfl, by decide, by kernel_rfl, let G0 := glb KX G c; ⟨G0.con, G0.tabs, G0.free, G0.fns, G0.exs, G0.err⟩, rfl, fun z => by cases z⟩
theorem at__law_truly (KX : K.In h) (G : h.Ns mainGlobals mg) (c : He.SaysX fa fn ts tf ex w h K) : ∃ fd, DefAt T K w mg tf (Str.ofString "_law_truly") m__law_truly fd [(Str.ofString "found"), (Str.ofString "due")] := by
  obtain ⟨fd, F⟩ := c.t.d.defs (d := d__law_truly) (by simp [fn, fn0, fn1])
  have B : L2.Binds K fd [(Str.ofString "found"), (Str.ofString "due")] [] := L2.FunD.bindsN F fun _ _ _ _ _ _ us hl => match us, hl with | [_, _], _ => rfl
  exact ⟨fd, { g0 with N := [(Str.ofString "found"), (Str.ofString "due")], own := [], dic := [], lam := false }, L2.defScope (top 50), L2.defArgs (top 50), L2.defBody (top 50), (Str.ofString "_law_truly"), F, mg_glo KX G c (by simp [fa, fa0, fa1, fa2, fa3]), B, ⟨rfl, rfl, rfl, by decide +kernel, rfl, by decide +kernel, by decide +kernel⟩, rfl, rfl, by decide, by kernel_rfl, let G0 := glb KX G c; ⟨G0.con, G0.tabs, G0.free, G0.fns, G0.exs, G0.err⟩, rfl, fun z => by cases z⟩
theorem at__law_low (KX : K.In h) (G : h.Ns mainGlobals mg) (c : He.SaysX fa fn ts tf ex w h K) : ∃ fd, DefAt T K w mg tf (Str.ofString "_law_low") m__law_low fd [(Str.ofString "top"), (Str.ofString "below")] := by
  obtain ⟨fd, F⟩ := c.t.d.defs (d := d__law_low) (by simp [fn, fn0, fn1])
  have B : L2.Binds K fd [(Str.ofString "top"), (Str.ofString "below")] [] := L2.FunD.bindsN F fun _ _ _ _ _ _ us hl => match us, hl with | [_, _], _ => rfl
  exact ⟨fd, { g0 with N := [(Str.ofString "top"), (Str.ofString "below"), (Str.ofString "one"), (Str.ofString "other")], own := [], dic := [], lam := false }, L2.defScope (top 51), L2.defArgs (top 51), L2.defBody (top 51), (Str.ofString "_law_low"), F, mg_glo KX G c (by simp [fa, fa0, fa1, fa2, fa3]), B, ⟨rfl, rfl, rfl, by decide +kernel, rfl, by decide +kernel, by decide +kernel⟩, rfl, rfl, by decide, by kernel_rfl, let G0 := glb KX G c; ⟨G0.con, G0.tabs, G0.free, G0.fns, G0.exs, G0.err⟩, rfl, fun z => by cases z⟩
theorem at__law_less (KX : K.In h) (G : h.Ns mainGlobals mg) (c : He.SaysX fa fn ts tf ex w h K) : ∃ fd, DefAt T K w mg tf (Str.ofString "_law_less") m__law_less fd [(Str.ofString "one"), (Str.ofString "other")] := by
  obtain ⟨fd, F⟩ := c.t.d.defs (d := d__law_less) (by simp [fn, fn0, fn1])
  have B : L2.Binds K fd [(Str.ofString "one"), (Str.ofString "other")] [] := L2.FunD.bindsN F fun _ _ _ _ _ _ us hl => match us, hl with | [_, _], _ => rfl
  exact ⟨fd, { g0 with N := [(Str.ofString "one"), (Str.ofString "other")], own := [], dic := [], lam := false }, L2.defScope (top 52), L2.defArgs (top 52), L2.defBody (top 52), (Str.ofString "_law_less"), F, mg_glo KX G c (by simp [fa, fa0, fa1, fa2, fa3]), B, ⟨rfl, rfl, rfl, by decide +kernel, rfl, by decide +kernel, by decide +kernel⟩, rfl, rfl, by decide, by kernel_rfl, let G0 := glb KX G c; ⟨G0.con, G0.tabs, G0.free, G0.fns, G0.exs, G0.err⟩, rfl, fun z => by cases z⟩
theorem at__law_ordered (KX : K.In h) (G : h.Ns mainGlobals mg) (c : He.SaysX fa fn ts tf ex w h K) : ∃ fd, DefAt T K w mg tf (Str.ofString "_law_ordered") m__law_ordered fd [(Str.ofString "some")] := by
  obtain ⟨fd, F⟩ := c.t.d.defs (d := d__law_ordered) (by simp [fn, fn0, fn1])
  have B : L2.Binds K fd [(Str.ofString "some")] [] := L2.FunD.bindsN F fun _ _ _ _ _ _ us hl => match us, hl with | [_], _ => rfl
  exact ⟨fd, { g0 with N := [(Str.ofString "some"), (Str.ofString "found"), (Str.ofString "one"), (Str.ofString "at"), (Str.ofString "other")], own := [], dic := [], lam := false }, L2.defScope (top 53), L2.defArgs (top 53), L2.defBody (top 53), (Str.ofString "_law_ordered"), F, mg_glo KX G c (by simp [fa, fa0, fa1, fa2, fa3]), B, ⟨rfl, rfl, rfl, by decide +kernel, rfl, by decide +kernel, by decide +kernel⟩, rfl, rfl, by decide, by kernel_rfl, let G0 := glb KX G c; ⟨G0.con, G0.tabs, G0.free, G0.fns, G0.exs, G0.err⟩, rfl, fun z => by cases z⟩
theorem at__law_is_fraction (KX : K.In h) (G : h.Ns mainGlobals mg) (c : He.SaysX fa fn ts tf ex w h K) : ∃ fd, DefAt T K w mg tf (Str.ofString "_law_is_fraction") m__law_is_fraction fd [(Str.ofString "value")] := by
  obtain ⟨fd, F⟩ := c.t.d.defs (d := d__law_is_fraction) (by simp [fn, fn0, fn1])
  have B : L2.Binds K fd [(Str.ofString "value")] [] := L2.FunD.bindsN F fun _ _ _ _ _ _ us hl => match us, hl with | [_], _ => rfl
  exact ⟨fd, { g0 with N := [(Str.ofString "value"), (Str.ofString "part")], own := [], dic := [], lam := false }, L2.defScope (top 54), L2.defArgs (top 54), L2.defBody (top 54), (Str.ofString "_law_is_fraction"), F, mg_glo KX G c (by simp [fa, fa0, fa1, fa2, fa3]), B, ⟨rfl, rfl, rfl, by decide +kernel, rfl, by decide +kernel, by decide +kernel⟩, rfl, rfl, by decide, by kernel_rfl, let G0 := glb KX G c; ⟨G0.con, G0.tabs, G0.free, G0.fns, G0.exs, G0.err⟩, rfl, fun z => by cases z⟩
theorem at__law_shape (KX : K.In h) (G : h.Ns mainGlobals mg) (c : He.SaysX fa fn ts tf ex w h K) : ∃ fd, DefAt T K w mg tf (Str.ofString "_law_shape") m__law_shape fd [(Str.ofString "value")] := by
  obtain ⟨fd, F⟩ := c.t.d.defs (d := d__law_shape) (by simp [fn, fn0, fn1])
  have B : L2.Binds K fd [(Str.ofString "value")] [] := L2.FunD.bindsN F fun _ _ _ _ _ _ us hl => match us, hl with | [_], _ => rfl
  exact ⟨fd, { g0 with N := [(Str.ofString "value"), (Str.ofString "word"), (Str.ofString "size"), (Str.ofString "row")], own := [], dic := [], lam := false }, L2.defScope (top 55), L2.defArgs (top 55), L2.defBody (top 55), (Str.ofString "_law_shape"), F, mg_glo KX G c (by simp [fa, fa0, fa1, fa2, fa3]), B, ⟨rfl, rfl, rfl, by decide +kernel, rfl, by decide +kernel, by decide +kernel⟩, rfl, rfl, by decide, by kernel_rfl, let G0 := glb KX G c; ⟨G0.con, G0.tabs, G0.free, G0.fns, G0.exs, G0.err⟩, rfl, fun z => by cases z⟩
theorem at__law_ends (KX : K.In h) (G : h.Ns mainGlobals mg) (c : He.SaysX fa fn ts tf ex w h K) : ∃ fd, DefAt T K w mg tf (Str.ofString "_law_ends") m__law_ends fd [(Str.ofString "value"), (Str.ofString "deep")] := by
  obtain ⟨fd, F⟩ := c.t.d.defs (d := d__law_ends) (by simp [fn, fn0, fn1])
  have B : L2.Binds K fd [(Str.ofString "value"), (Str.ofString "deep")] [] := L2.FunD.bindsN F fun _ _ _ _ _ _ us hl => match us, hl with | [_, _], _ => rfl
  exact ⟨fd, { g0 with N := [(Str.ofString "value"), (Str.ofString "deep"), (Str.ofString "parts"), (Str.ofString "part")], own := [], dic := [], lam := false }, L2.defScope (top 56), L2.defArgs (top 56), L2.defBody (top 56), (Str.ofString "_law_ends"), F, mg_glo KX G c (by simp [fa, fa0, fa1, fa2, fa3]), B, ⟨rfl, rfl, rfl, by decide +kernel, rfl, by decide +kernel, by decide +kernel⟩, rfl, rfl, by decide, by kernel_rfl, let G0 := glb KX G c; ⟨G0.con, G0.tabs, G0.free, G0.fns, G0.exs, G0.err⟩, rfl, fun z => by cases z⟩
theorem at__law_is_contract (KX : K.In h) (G : h.Ns mainGlobals mg) (c : He.SaysX fa fn ts tf ex w h K) : ∃ fd, DefAt T K w mg tf (Str.ofString "_law_is_contract") m__law_is_contract fd [(Str.ofString "value")] := by
  obtain ⟨fd, F⟩ := c.t.d.defs (d := d__law_is_contract) (by simp [fn, fn0, fn1])
  have B : L2.Binds K fd [(Str.ofString "value")] [] := L2.FunD.bindsN F fun _ _ _ _ _ _ us hl => match us, hl with | [_], _ => rfl
  exact ⟨fd, { g0 with N := [(Str.ofString "value")], own := [], dic := [], lam := false }, L2.defScope (top 57), L2.defArgs (top 57), L2.defBody (top 57), (Str.ofString "_law_is_contract"), F, mg_glo KX G c (by simp [fa, fa0, fa1, fa2, fa3]), B, ⟨rfl, rfl, rfl, by decide +kernel, rfl, by decide +kernel, by decide +kernel⟩, rfl, rfl, by decide, by kernel_rfl, let G0 := glb KX G c; ⟨G0.con, G0.tabs, G0.free, G0.fns, G0.exs, G0.err⟩, rfl, fun z => by cases z⟩
theorem at__law_is_person (KX : K.In h) (G : h.Ns mainGlobals mg) (c : He.SaysX fa fn ts tf ex w h K) : ∃ fd, DefAt T K w mg tf (Str.ofString "_law_is_person") m__law_is_person fd [(Str.ofString "value")] := by
  obtain ⟨fd, F⟩ := c.t.d.defs (d := d__law_is_person) (by simp [fn, fn0, fn1])
  have B : L2.Binds K fd [(Str.ofString "value")] [] := L2.FunD.bindsN F fun _ _ _ _ _ _ us hl => match us, hl with | [_], _ => rfl
  exact ⟨fd, { g0 with N := [(Str.ofString "value"), (Str.ofString "knee"), (Str.ofString "bounds")], own := [], dic := [], lam := false }, L2.defScope (top 58), L2.defArgs (top 58), L2.defBody (top 58), (Str.ofString "_law_is_person"), F, mg_glo KX G c (by simp [fa, fa0, fa1, fa2, fa3]), B, ⟨rfl, rfl, rfl, by decide +kernel, rfl, by decide +kernel, by decide +kernel⟩, rfl, rfl, by decide, by kernel_rfl, let G0 := glb KX G c; ⟨G0.con, G0.tabs, G0.free, G0.fns, G0.exs, G0.err⟩, rfl, fun z => by cases z⟩
theorem at__law_contract (KX : K.In h) (G : h.Ns mainGlobals mg) (c : He.SaysX fa fn ts tf ex w h K) : ∃ fd, DefAt T K w mg tf (Str.ofString "_law_contract") m__law_contract fd [(Str.ofString "vat"), (Str.ofString "deep")] := by
  obtain ⟨fd, F⟩ := c.t.d.defs (d := d__law_contract) (by simp [fn, fn0, fn1])
  have B : L2.Binds K fd [(Str.ofString "vat"), (Str.ofString "deep")] [] := L2.FunD.bindsN F fun _ _ _ _ _ _ us hl => match us, hl with | [_, _], _ => rfl
  exact ⟨fd, { g0 with N := [(Str.ofString "vat"), (Str.ofString "deep"), (Str.ofString "way"), (Str.ofString "top"), (Str.ofString "lot"), (Str.ofString "turn"), (Str.ofString "part"), (Str.ofString "amount")], own := [0, 4], dic := [], lam := false }, L2.defScope (top 59), L2.defArgs (top 59), L2.defBody (top 59), (Str.ofString "_law_contract"), F, mg_glo KX G c (by simp [fa, fa0, fa1, fa2, fa3]), B, ⟨rfl, rfl, rfl, by decide +kernel, rfl, by decide +kernel, by decide +kernel⟩, rfl, rfl, by decide, by kernel_rfl, let G0 := glb KX G c; ⟨G0.con, G0.tabs, G0.free, G0.fns, G0.exs, G0.err⟩, rfl, fun z => by cases z⟩
theorem at__law_small (KX : K.In h) (G : h.Ns mainGlobals mg) (c : He.SaysX fa fn ts tf ex w h K) : ∃ fd, DefAt T K w mg tf (Str.ofString "_law_small") m__law_small fd [(Str.ofString "vat"), (Str.ofString "deep")] := by
  obtain ⟨fd, F⟩ := c.t.d.defs (d := d__law_small) (by simp [fn, fn0, fn1])
  have B : L2.Binds K fd [(Str.ofString "vat"), (Str.ofString "deep")] [] := L2.FunD.bindsN F fun _ _ _ _ _ _ us hl => match us, hl with | [_, _], _ => rfl
  exact ⟨fd, { g0 with N := [(Str.ofString "vat"), (Str.ofString "deep"), (Str.ofString "found")], own := [0], dic := [], lam := false }, L2.defScope (top 60), L2.defArgs (top 60), L2.defBody (top 60), (Str.ofString "_law_small"), F, mg_glo KX G c (by simp [fa, fa0, fa1, fa2, fa3]), B, ⟨rfl, rfl, rfl, by decide +kernel, rfl, by decide +kernel, by decide +kernel⟩, rfl, rfl, by decide, by kernel_rfl, let G0 := glb KX G c; ⟨G0.con, G0.tabs, G0.free, G0.fns, G0.exs, G0.err⟩, rfl, fun z => by cases z⟩
theorem at__law_person (KX : K.In h) (G : h.Ns mainGlobals mg) (c : He.SaysX fa fn ts tf ex w h K) : ∃ fd, DefAt T K w mg tf (Str.ofString "_law_person") m__law_person fd [(Str.ofString "vat")] := by
  obtain ⟨fd, F⟩ := c.t.d.defs (d := d__law_person) (by simp [fn, fn0, fn1])
  have B : L2.Binds K fd [(Str.ofString "vat")] [] := L2.FunD.bindsN F fun _ _ _ _ _ _ us hl => match us, hl with | [_], _ => rfl
  exact ⟨fd, { g0 with N := [(Str.ofString "vat"), (Str.ofString "knees"), (Str.ofString "bound")], own := [0], dic := [], lam := false }, L2.defScope (top 61), L2.defArgs (top 61), L2.defBody (top 61), (Str.ofString "_law_person"), F, mg_glo KX G c (by simp [fa, fa0, fa1, fa2, fa3]), B, ⟨rfl, rfl, rfl, by decide +kernel, rfl, by decide +kernel, by decide +kernel⟩, rfl, rfl, by decide, by kernel_rfl, let G0 := glb KX G c; ⟨G0.con, G0.tabs, G0.free, G0.fns, G0.exs, G0.err⟩, rfl, fun z => by cases z⟩
theorem at__law_odd (KX : K.In h) (G : h.Ns mainGlobals mg) (c : He.SaysX fa fn ts tf ex w h K) : ∃ fd, DefAt T K w mg tf (Str.ofString "_law_odd") m__law_odd fd [(Str.ofString "vat"), (Str.ofString "depth")] := by
  obtain ⟨fd, F⟩ := c.t.d.defs (d := d__law_odd) (by simp [fn, fn0, fn1])
  have B : L2.Binds K fd [(Str.ofString "vat"), (Str.ofString "depth")] [] := L2.FunD.bindsN F fun _ _ _ _ _ _ us hl => match us, hl with | [_, _], _ => rfl
  exact ⟨fd, { g0 with N := [(Str.ofString "vat"), (Str.ofString "depth"), (Str.ofString "some"), (Str.ofString "row"), (Str.ofString "part")], own := [0], dic := [], lam := false }, L2.defScope (top 64), L2.defArgs (top 64), L2.defBody (top 64), (Str.ofString "_law_odd"), F, mg_glo KX G c (by simp [fa, fa0, fa1, fa2, fa3]), B, ⟨rfl, rfl, rfl, by decide +kernel, rfl, by decide +kernel, by decide +kernel⟩, rfl, rfl, by decide, by kernel_rfl, let G0 := glb KX G c; ⟨G0.con, G0.tabs, G0.free, G0.fns, G0.exs, G0.err⟩, rfl, fun z => by cases z⟩
theorem at__law_bent (KX : K.In h) (G : h.Ns mainGlobals mg) (c : He.SaysX fa fn ts tf ex w h K) : ∃ fd, DefAt T K w mg tf (Str.ofString "_law_bent") m__law_bent fd [(Str.ofString "vat"), (Str.ofString "value")] := by
  obtain ⟨fd, F⟩ := c.t.d.defs (d := d__law_bent) (by simp [fn, fn0, fn1])
  have B : L2.Binds K fd [(Str.ofString "vat"), (Str.ofString "value")] [] := L2.FunD.bindsN F fun _ _ _ _ _ _ us hl => match us, hl with | [_, _], _ => rfl
  exact ⟨fd, { g0 with N := [(Str.ofString "vat"), (Str.ofString "value"), (Str.ofString "near"), (Str.ofString "at"), (Str.ofString "way")], own := [0], dic := [], lam := false }, L2.defScope (top 65), L2.defArgs (top 65), L2.defBody (top 65), (Str.ofString "_law_bent"), F, mg_glo KX G c (by simp [fa, fa0, fa1, fa2, fa3]), B, ⟨rfl, rfl, rfl, by decide +kernel, rfl, by decide +kernel, by decide +kernel⟩, rfl, rfl, by decide, by kernel_rfl, let G0 := glb KX G c; ⟨G0.con, G0.tabs, G0.free, G0.fns, G0.exs, G0.err⟩, rfl, fun z => by cases z⟩
theorem at__law_judged (KX : K.In h) (G : h.Ns mainGlobals mg) (c : He.SaysX fa fn ts tf ex w h K) : ∃ fd, DefAt T K w mg tf (Str.ofString "_law_judged") m__law_judged fd [(Str.ofString "value")] := by
  obtain ⟨fd, F⟩ := c.t.d.defs (d := d__law_judged) (by simp [fn, fn0, fn1])
  have B : L2.Binds K fd [(Str.ofString "value")] [] := L2.FunD.bindsN F fun _ _ _ _ _ _ us hl => match us, hl with | [_], _ => rfl
  exact ⟨fd, { g0 with N := [(Str.ofString "value"), (Str.ofString "good"), (Str.ofString "call")], own := [], dic := [], lam := true }, L2.defScope (top 66), L2.defArgs (top 66), L2.defBody (top 66), (Str.ofString "_law_judged"), F, mg_glo KX G c (by simp [fa, fa0, fa1, fa2, fa3]), B, ⟨rfl, rfl, rfl, by decide +kernel, rfl, by decide +kernel, by decide +kernel⟩, rfl, rfl, by decide, by kernel_rfl, let G0 := glb KX G c; ⟨G0.con, G0.tabs, G0.free, G0.fns, G0.exs, G0.err⟩, rfl, fun _ => ⟨by simp [tf], rfl⟩⟩
theorem at__law_deep (KX : K.In h) (G : h.Ns mainGlobals mg) (c : He.SaysX fa fn ts tf ex w h K) : ∃ fd, DefAt T K w mg tf (Str.ofString "_law_deep") m__law_deep fd [(Str.ofString "deep")] := by
  obtain ⟨fd, F⟩ := c.t.d.defs (d := d__law_deep) (by simp [fn, fn0, fn1])
  have B : L2.Binds K fd [(Str.ofString "deep")] [] := L2.FunD.bindsN F fun _ _ _ _ _ _ us hl => match us, hl with | [_], _ => rfl
  exact ⟨fd, { g0 with N := [(Str.ofString "deep"), (Str.ofString "found"), (Str.ofString "turn")], own := [], dic := [], lam := false }, L2.defScope (top 67), L2.defArgs (top 67), L2.defBody (top 67), (Str.ofString "_law_deep"), F, mg_glo KX G c (by simp [fa, fa0, fa1, fa2, fa3]), B, ⟨rfl, rfl, rfl, by decide +kernel, rfl, by decide +kernel, by decide +kernel⟩, rfl, rfl, by decide, by kernel_rfl, let G0 := glb KX G c; ⟨G0.con, G0.tabs, G0.free, G0.fns, G0.exs, G0.err⟩, rfl, fun z => by cases z⟩
theorem at_law (KX : K.In h) (G : h.Ns mainGlobals mg) (c : He.SaysX fa fn ts tf ex w h K) : ∃ fd, DefAt T K w mg tf (Str.ofString "law") m_law fd [(Str.ofString "script")] := by
  obtain ⟨fd, F⟩ := c.t.d.defs (d := d_law) (by simp [fn, fn0, fn1])
  have B : L2.Binds K fd [(Str.ofString "script")] [] := L2.FunD.bindsN F fun _ _ _ _ _ _ us hl => match us, hl with | [_], _ => rfl
  exact ⟨fd, { g0 with N := [(Str.ofString "script"), (Str.ofString "k"), (Str.ofString "one"), (Str.ofString "some"), (Str.ofString "many"), (Str.ofString "vat"), (Str.ofString "value"), (Str.ofString "spoilt"), (Str.ofString "change")], own := [5], dic := [], lam := false }, L2.defScope (top 68), L2.defArgs (top 68), L2.defBody (top 68), (Str.ofString "law"), F, mg_glo KX G c (by simp [fa, fa0, fa1, fa2, fa3]), B, ⟨rfl, rfl, rfl, by decide +kernel, rfl, by decide +kernel, by decide +kernel⟩, rfl, rfl, by decide, by kernel_rfl, let G0 := glb KX G c; ⟨G0.con, G0.tabs, G0.free, G0.fns, G0.exs, G0.err⟩, rfl, fun z => by cases z⟩
theorem all_ok (KX : K.In h) (G : h.Ns mainGlobals mg) (c : He.SaysX fa fn ts tf ex w h K) : ∀ x m, T x = some m → m.hot = [] → DefOk T K w mg tf x m := by
  intro x m hm hh
  have hm := mem_of_lookup hm
  simp only [tab, tab0, tab1, List.mem_append, List.mem_cons, List.not_mem_nil, or_false, Prod.mk.injEq] at hm
  rcases hm with ((⟨rfl, rfl⟩ | ⟨rfl, rfl⟩ | ⟨rfl, rfl⟩ | ⟨rfl, rfl⟩ | ⟨rfl, rfl⟩ | ⟨rfl, rfl⟩ | ⟨rfl, rfl⟩ | ⟨rfl, rfl⟩ | ⟨rfl, rfl⟩ | ⟨rfl, rfl⟩ | ⟨rfl, rfl⟩ | ⟨rfl, rfl⟩ | ⟨rfl, rfl⟩ | ⟨rfl, rfl⟩ | ⟨rfl, rfl⟩ | ⟨rfl, rfl⟩ | ⟨rfl, rfl⟩ | ⟨rfl, rfl⟩ | ⟨rfl, rfl⟩ | ⟨rfl, rfl⟩ | ⟨rfl, rfl⟩ | ⟨rfl, rfl⟩ | ⟨rfl, rfl⟩ | ⟨rfl, rfl⟩ | ⟨rfl, rfl⟩) | (⟨rfl, rfl⟩ | ⟨rfl, rfl⟩ | ⟨rfl, rfl⟩ | ⟨rfl, rfl⟩ | ⟨rfl, rfl⟩ | ⟨rfl, rfl⟩ | ⟨rfl, rfl⟩ | ⟨rfl, rfl⟩ | ⟨rfl, rfl⟩ | ⟨rfl, rfl⟩ | ⟨rfl, rfl⟩ | ⟨rfl, rfl⟩ | ⟨rfl, rfl⟩ | ⟨rfl, rfl⟩ | ⟨rfl, rfl⟩ | ⟨rfl, rfl⟩ | ⟨rfl, rfl⟩ | ⟨rfl, rfl⟩ | ⟨rfl, rfl⟩ | ⟨rfl, rfl⟩ | ⟨rfl, rfl⟩ | ⟨rfl, rfl⟩ | ⟨rfl, rfl⟩ | ⟨rfl, rfl⟩))
  · obtain ⟨fd, h⟩ := at_lowest KX G c; exact ⟨⟨fd, _, h⟩⟩
  · obtain ⟨fd, h⟩ := at_plus KX G c; exact ⟨⟨fd, _, h⟩⟩
  · obtain ⟨fd, h⟩ := at_minus KX G c; exact ⟨⟨fd, _, h⟩⟩
  · obtain ⟨fd, h⟩ := at_times KX G c; exact ⟨⟨fd, _, h⟩⟩
  · obtain ⟨fd, h⟩ := at_is_below KX G c; exact ⟨⟨fd, _, h⟩⟩
  · obtain ⟨fd, h⟩ := at_lesser KX G c; exact ⟨⟨fd, _, h⟩⟩
  · obtain ⟨fd, h⟩ := at_greater KX G c; exact ⟨⟨fd, _, h⟩⟩
  · obtain ⟨fd, h⟩ := at_total KX G c; exact ⟨⟨fd, _, h⟩⟩
  · obtain ⟨fd, h⟩ := at_multiple_of KX G c; exact ⟨⟨fd, _, h⟩⟩
  · obtain ⟨fd, h⟩ := at_in_order KX G c; exact ⟨⟨fd, _, h⟩⟩
  · obtain ⟨fd, h⟩ := at_is_fraction KX G c; exact ⟨⟨fd, _, h⟩⟩
  · obtain ⟨fd, h⟩ := at_is_whole KX G c; exact ⟨⟨fd, _, h⟩⟩
  · obtain ⟨fd, h⟩ := at_is_amount KX G c; exact ⟨⟨fd, _, h⟩⟩
  · obtain ⟨fd, h⟩ := at_are_numbers KX G c; exact ⟨⟨fd, _, h⟩⟩
  · obtain ⟨fd, h⟩ := at_inner_values KX G c; exact ⟨⟨fd, _, h⟩⟩
  · obtain ⟨fd, h⟩ := at_sure_count KX G c; exact ⟨⟨fd, _, h⟩⟩
  · obtain ⟨fd, h⟩ := at_has_contract KX G c; exact ⟨⟨fd, _, h⟩⟩
  · obtain ⟨fd, h⟩ := at_need_contract KX G c; exact ⟨⟨fd, _, h⟩⟩
  · obtain ⟨fd, h⟩ := at_paid KX G c; exact ⟨⟨fd, _, h⟩⟩
  · obtain ⟨fd, h⟩ := at_joined KX G c; exact ⟨⟨fd, _, h⟩⟩
  · obtain ⟨fd, h⟩ := at_rows_of KX G c; exact ⟨⟨fd, _, h⟩⟩
  · obtain ⟨fd, h⟩ := at_mean_of KX G c; exact ⟨⟨fd, _, h⟩⟩
  · obtain ⟨fd, h⟩ := at_is_contract KX G c; exact ⟨⟨fd, _, h⟩⟩
  · obtain ⟨fd, h⟩ := at_has_person KX G c; exact ⟨⟨fd, _, h⟩⟩
  · obtain ⟨fd, h⟩ := at_is_person KX G c; exact ⟨⟨fd, _, h⟩⟩
  · obtain ⟨fd, h⟩ := at_rows KX G c; exact ⟨⟨fd, _, h⟩⟩
  · obtain ⟨fd, h⟩ := at_mean KX G c; exact ⟨⟨fd, _, h⟩⟩
  · obtain ⟨fd, h⟩ := at__law_vat KX G c; exact ⟨⟨fd, _, h⟩⟩
  · obtain ⟨fd, h⟩ := at__law_under KX G c; exact ⟨⟨fd, _, h⟩⟩
  · obtain ⟨fd, h⟩ := at__law_some KX G c; exact ⟨⟨fd, _, h⟩⟩
  · obtain ⟨fd, h⟩ := at__law_is_whole KX G c; exact ⟨⟨fd, _, h⟩⟩
  · obtain ⟨fd, h⟩ := at__law_truly KX G c; exact ⟨⟨fd, _, h⟩⟩
  · obtain ⟨fd, h⟩ := at__law_low KX G c; exact ⟨⟨fd, _, h⟩⟩
  · obtain ⟨fd, h⟩ := at__law_less KX G c; exact ⟨⟨fd, _, h⟩⟩
  · obtain ⟨fd, h⟩ := at__law_ordered KX G c; exact ⟨⟨fd, _, h⟩⟩
  · obtain ⟨fd, h⟩ := at__law_is_fraction KX G c; exact ⟨⟨fd, _, h⟩⟩
  · obtain ⟨fd, h⟩ := at__law_shape KX G c; exact ⟨⟨fd, _, h⟩⟩
  · obtain ⟨fd, h⟩ := at__law_ends KX G c; exact ⟨⟨fd, _, h⟩⟩
  · obtain ⟨fd, h⟩ := at__law_is_contract KX G c; exact ⟨⟨fd, _, h⟩⟩
  · obtain ⟨fd, h⟩ := at__law_is_person KX G c; exact ⟨⟨fd, _, h⟩⟩
  · obtain ⟨fd, h⟩ := at__law_contract KX G c; exact ⟨⟨fd, _, h⟩⟩
  · obtain ⟨fd, h⟩ := at__law_small KX G c; exact ⟨⟨fd, _, h⟩⟩
  · obtain ⟨fd, h⟩ := at__law_person KX G c; exact ⟨⟨fd, _, h⟩⟩
  · cases hh
  · obtain ⟨fd, h⟩ := at__law_odd KX G c; exact ⟨⟨fd, _, h⟩⟩
  · obtain ⟨fd, h⟩ := at__law_bent KX G c; exact ⟨⟨fd, _, h⟩⟩
  · obtain ⟨fd, h⟩ := at__law_judged KX G c; exact ⟨⟨fd, _, h⟩⟩
  · obtain ⟨fd, h⟩ := at__law_deep KX G c; exact ⟨⟨fd, _, h⟩⟩
  · obtain ⟨fd, h⟩ := at_law KX G c; exact ⟨⟨fd, _, h⟩⟩
end
end HK01

end
section
set_option linter.all false
set_option maxRecDepth 100000
/-! Readings of defs (printed by genlib.py). -/
namespace Lib
open MP
def lowest : MF := { np := 2, ns := 4, own := false, body := (.cons (.par [(2, false), (3, false)] (.cons (.bi .abs (.cons (.var 0) .nil)) (.cons (.bi .abs (.cons (.var 1) .nil)) .nil))) (.cons (.whil (.v (.cmp .gt (.var 3) (.con (.int 0)))) (.cons (.par [(2, false), (3, false)] (.cons (.var 3) (.cons (.bin .mod (.var 2) (.var 3)) .nil))) .nil)) (.cons (.asg 2 false (.ife (.v (.cmp .gt (.var 1) (.con (.int 0)))) (.var 2) (.neg (.var 2)))) (.cons (.ret (.tup (.cons (.bin .fdiv (.var 0) (.var 2)) (.cons (.bin .fdiv (.var 1) (.var 2)) .nil)))) .nil)))) }
def plus : MF := { np := 2, ns := 2, own := false, body := (.cons (.ret (.call (PySem.Str.ofString "lowest") (.cons (.bin .add (.bin .mul (.ixv 0 (.con (.int 0))) (.ixv 1 (.con (.int 1)))) (.bin .mul (.ixv 1 (.con (.int 0))) (.ixv 0 (.con (.int 1))))) (.cons (.bin .mul (.ixv 0 (.con (.int 1))) (.ixv 1 (.con (.int 1)))) .nil)))) .nil) }
def minus : MF := { np := 2, ns := 2, own := false, body := (.cons (.ret (.call (PySem.Str.ofString "lowest") (.cons (.bin .sub (.bin .mul (.ixv 0 (.con (.int 0))) (.ixv 1 (.con (.int 1)))) (.bin .mul (.ixv 1 (.con (.int 0))) (.ixv 0 (.con (.int 1))))) (.cons (.bin .mul (.ixv 0 (.con (.int 1))) (.ixv 1 (.con (.int 1)))) .nil)))) .nil) }
def times : MF := { np := 2, ns := 2, own := false, body := (.cons (.ret (.call (PySem.Str.ofString "lowest") (.cons (.bin .mul (.ixv 0 (.con (.int 0))) (.ixv 1 (.con (.int 0)))) (.cons (.bin .mul (.ixv 0 (.con (.int 1))) (.ixv 1 (.con (.int 1)))) .nil)))) .nil) }
def is_below : MF := { np := 2, ns := 2, own := false, body := (.cons (.ret (.cmp .lt (.bin .mul (.ixv 0 (.con (.int 0))) (.ixv 1 (.con (.int 1)))) (.bin .mul (.ixv 1 (.con (.int 0))) (.ixv 0 (.con (.int 1)))))) .nil) }
def lesser : MF := { np := 2, ns := 2, own := false, body := (.cons (.ret (.ife (.v (.call (PySem.Str.ofString "is_below") (.cons (.var 1) (.cons (.var 0) .nil)))) (.var 1) (.var 0))) .nil) }
def greater : MF := { np := 2, ns := 2, own := false, body := (.cons (.ret (.ife (.v (.call (PySem.Str.ofString "is_below") (.cons (.var 0) (.cons (.var 1) .nil)))) (.var 1) (.var 0))) .nil) }
def total : MF := { np := 1, ns := 3, own := false, body := (.cons (.asg 1 false (.con (.tup [(.int 0), (.int 1)]))) (.cons (.forr (.nm 2) (.v (.var 0)) (.cons (.asg 1 false (.call (PySem.Str.ofString "plus") (.cons (.var 1) (.cons (.var 2) .nil)))) .nil)) (.cons (.retv 1) .nil))) }
def multiple_of : MF := { np := 1, ns := 4, own := false, body := (.cons (.asg 1 false (.con (.int 1))) (.cons (.forr (.tp2 (.nm 2) (.nm 3)) (.v (.var 0)) (.cons (.asg 1 false (.bin .mul (.var 1) (.ix (.call (PySem.Str.ofString "lowest") (.cons (.var 3) (.cons (.var 1) .nil))) (.con (.int 0))))) .nil)) (.cons (.retv 1) .nil))) }
def in_order : MF := { np := 1, ns := 5, own := false, body := (.cons (.asg 1 false (.call (PySem.Str.ofString "multiple_of") (.cons (.var 0) .nil))) (.cons (.asg 2 false (.bi .sset (.cons (.comp (.nm 4) (.v (.var 0)) .none (.bi .int (.cons (.bin .mul (.ixv 4 (.con (.int 0))) (.bin .fdiv (.var 1) (.ixv 4 (.con (.int 1))))) .nil)) [4]) .nil))) (.cons (.ret (.comp (.nm 3) (.v (.var 2)) .none (.call (PySem.Str.ofString "lowest") (.cons (.var 3) (.cons (.var 1) .nil))) [3])) .nil))) }
def is_whole : MF := { np := 3, ns := 3, own := false, body := (.cons (.ret (.and (.isi [.int] (.var 0)) (.and (.not (.isi [.bool] (.var 0))) (.chain .le .le (.var 1) (.var 0) (.var 2))))) .nil) }
def is_amount : MF := { np := 1, ns := 1, own := false, body := (.cons (.ret (.call (PySem.Str.ofString "is_whole") (.cons (.var 0) (.cons (.neg (.con (.int 1000))) (.cons (.con (.int 1000)) .nil))))) .nil) }
def are_numbers : MF := { np := 1, ns := 1, own := false, body := (.cons (.iff (.v (.cmp .in_ (.ixv 0 (.con (.int 0))) (.tup (.cons (.con (.str (PySem.Str.ofString "sure"))) (.cons (.con (.str (PySem.Str.ofString "cap"))) (.cons (.con (.str (PySem.Str.ofString "floor"))) (.cons (.con (.str (PySem.Str.ofString "more"))) .nil))))))) (.cons (.ret (.call (PySem.Str.ofString "is_amount") (.cons (.ixv 0 (.con (.int 1))) .nil))) .nil) .nil) (.cons (.iff (.v (.cmp .eq (.ixv 0 (.con (.int 0))) (.con (.str (PySem.Str.ofString "draw"))))) (.cons (.ret (.con (.bl true))) .nil) .nil) (.cons (.iff (.or (.not (.v (.call (PySem.Str.ofString "is_whole") (.cons (.ixv 0 (.con (.int 1))) (.cons (.con (.int 0)) (.cons (.con (.int 12)) .nil)))))) (.not (.v (.call (PySem.Str.ofString "is_whole") (.cons (.ixv 0 (.con (.int 2))) (.cons (.con (.int 1)) (.cons (.con (.int 12)) .nil))))))) (.cons (.ret (.con (.bl false))) .nil) .nil) (.cons (.ret (.or (.cmp .eq (.ixv 0 (.con (.int 0))) (.con (.str (PySem.Str.ofString "share")))) (.and (.cmp .le (.ixv 0 (.con (.int 1))) (.ixv 0 (.con (.int 2)))) (.call (PySem.Str.ofString "is_amount") (.cons (.ixv 0 (.con (.int 3))) .nil))))) .nil)))) }
def inner_values : MF := { np := 1, ns := 2, own := false, body := (.cons (.iff (.v (.cmp .eq (.ixv 0 (.con (.int 0))) (.con (.str (PySem.Str.ofString "sure"))))) (.cons (.ret (.lst .nil)) .nil) .nil) (.cons (.iff (.v (.cmp .ne (.ixv 0 (.con (.int 0))) (.con (.str (PySem.Str.ofString "draw"))))) (.cons (.ret (.lst (.cons (.ixv 0 (.neg (.con (.int 1)))) .nil))) .nil) .nil) (.cons (.iff (.or (.not (.v (.isi [.tuple] (.ixv 0 (.con (.int 1)))))) (.not (.v (.chain .le .le (.con (.int 1)) (.bi .len (.cons (.ixv 0 (.con (.int 1))) .nil)) (.con (.int 4)))))) (.cons (.ret (.con .non)) .nil) .nil) (.cons (.forr (.nm 1) (.v (.ixv 0 (.con (.int 1)))) (.cons (.iff (.or (.not (.v (.isi [.tuple] (.var 1)))) (.or (.v (.cmp .ne (.lenv 1) (.con (.int 2)))) (.not (.v (.call (PySem.Str.ofString "is_whole") (.cons (.ixv 1 (.con (.int 0))) (.cons (.con (.int 1)) (.cons (.con (.int 12)) .nil)))))))) (.cons (.ret (.con .non)) .nil) .nil) .nil)) (.cons (.ret (.comp (.nm 1) (.v (.ixv 0 (.con (.int 1)))) .none (.ixv 1 (.con (.int 1))) [1])) .nil))))) }
def sure_count : MF := { np := 2, ns := 6, own := false, body := (.cons (.iff (.or (.v (.cmp .eq (.var 1) (.con (.int 0)))) (.or (.not (.v (.isi [.tuple] (.var 0)))) (.or (.v (.cmp .eq (.var 0) (.tup .nil))) (.not (.v (.isi [.str] (.ixv 0 (.con (.int 0))))))))) (.cons (.ret (.con .non)) .nil) .nil) (.cons (.iff (.or (.v (.cmp .ne (.kget [((PySem.Str.ofString "sure"), 2), ((PySem.Str.ofString "draw"), 2), ((PySem.Str.ofString "cap"), 3), ((PySem.Str.ofString "floor"), 3), ((PySem.Str.ofString "more"), 3), ((PySem.Str.ofString "share"), 4), ((PySem.Str.ofString "insured"), 5)] (.ixv 0 (.con (.int 0))) (.con (.int 0))) (.lenv 0))) (.not (.v (.call (PySem.Str.ofString "are_numbers") (.cons (.var 0) .nil))))) (.cons (.ret (.con .non)) .nil) .nil) (.cons (.asg 2 false (.call (PySem.Str.ofString "inner_values") (.cons (.var 0) .nil))) (.cons (.iff (.v (.cmp .is_ (.var 2) (.con .non))) (.cons (.ret (.con .non)) .nil) .nil) (.cons (.asg 3 false (.ife (.v (.cmp .eq (.var 2) (.lst .nil))) (.con (.int 1)) (.con (.int 0)))) (.cons (.forr (.nm 4) (.v (.var 2)) (.cons (.asg 5 false (.call (PySem.Str.ofString "sure_count") (.cons (.var 4) (.cons (.bin .sub (.var 1) (.con (.int 1))) .nil)))) (.cons (.iff (.v (.cmp .is_ (.var 5) (.con .non))) (.cons (.ret (.con .non)) .nil) .nil) (.cons (.asg 3 false (.bin .add (.var 3) (.var 5))) .nil)))) (.cons (.retv 3) .nil))))))) }
def has_contract : MF := { np := 1, ns := 2, own := false, body := (.cons (.asg 1 false (.call (PySem.Str.ofString "sure_count") (.cons (.var 0) (.cons (.con (.int 6)) .nil)))) (.cons (.ret (.and (.cmp .isnot (.var 1) (.con .non)) (.cmp .le (.var 1) (.con (.int 12))))) .nil)) }
def need_contract : MF := { np := 1, ns := 1, own := false, body := (.cons (.iff (.not (.v (.call (PySem.Str.ofString "has_contract") (.cons (.var 0) .nil)))) (.cons .never .nil) .nil) .nil) }
def paid : MF := { np := 2, ns := 4, own := false, body := (.cons (.asg 2 false (.ixv 0 (.con (.int 0)))) (.cons (.iff (.v (.cmp .eq (.var 2) (.con (.str (PySem.Str.ofString "cap"))))) (.cons (.ret (.call (PySem.Str.ofString "lesser") (.cons (.var 1) (.cons (.tup (.cons (.ixv 0 (.con (.int 1))) (.cons (.con (.int 1)) .nil))) .nil)))) .nil) .nil) (.cons (.iff (.v (.cmp .eq (.var 2) (.con (.str (PySem.Str.ofString "floor"))))) (.cons (.ret (.call (PySem.Str.ofString "greater") (.cons (.var 1) (.cons (.tup (.cons (.ixv 0 (.con (.int 1))) (.cons (.con (.int 1)) .nil))) .nil)))) .nil) .nil) (.cons (.iff (.v (.cmp .eq (.var 2) (.con (.str (PySem.Str.ofString "more"))))) (.cons (.ret (.call (PySem.Str.ofString "plus") (.cons (.var 1) (.cons (.tup (.cons (.ixv 0 (.con (.int 1))) (.cons (.con (.int 1)) .nil))) .nil)))) .nil) .nil) (.cons (.asg 3 false (.call (PySem.Str.ofString "lowest") (.cons (.ixv 0 (.con (.int 1))) (.cons (.ixv 0 (.con (.int 2))) .nil)))) (.cons (.iff (.v (.cmp .eq (.var 2) (.con (.str (PySem.Str.ofString "share"))))) (.cons (.ret (.call (PySem.Str.ofString "times") (.cons (.var 3) (.cons (.var 1) .nil)))) .nil) .nil) (.cons (.ret (.call (PySem.Str.ofString "plus") (.cons (.var 1) (.cons (.call (PySem.Str.ofString "times") (.cons (.var 3) (.cons (.call (PySem.Str.ofString "greater") (.cons (.con (.tup [(.int 0), (.int 1)])) (.cons (.call (PySem.Str.ofString "minus") (.cons (.tup (.cons (.ixv 0 (.con (.int 3))) (.cons (.con (.int 1)) .nil))) (.cons (.var 1) .nil))) .nil))) .nil))) .nil)))) .nil))))))) }
def joined : MF := { np := 1, ns := 4, own := false, body := (.cons (.dnew 1) (.cons (.forr (.tp2 (.nm 2) (.nm 3)) (.v (.var 0)) (.cons (.dset 1 (.var 2) (.call (PySem.Str.ofString "plus") (.cons (.dget 1 (.var 2) (.con (.tup [(.int 0), (.int 1)]))) (.cons (.var 3) .nil)))) .nil)) (.cons (.ret (.comp (.nm 2) (.v (.call (PySem.Str.ofString "in_order") (.cons (.dlist 1) .nil))) .none (.tup (.cons (.var 2) (.cons (.dix 1 (.var 2)) .nil))) [2])) .nil))) }
def rows_of : MF := { np := 1, ns := 7, own := false, body := (.cons (.iff (.v (.cmp .eq (.ixv 0 (.con (.int 0))) (.con (.str (PySem.Str.ofString "sure"))))) (.cons (.ret (.lst (.cons (.tup (.cons (.tup (.cons (.ixv 0 (.con (.int 1))) (.cons (.con (.int 1)) .nil))) (.cons (.con (.tup [(.int 1), (.int 1)])) .nil))) .nil))) .nil) .nil) (.cons (.iff (.v (.cmp .ne (.ixv 0 (.con (.int 0))) (.con (.str (PySem.Str.ofString "draw"))))) (.cons (.ret (.call (PySem.Str.ofString "joined") (.cons (.comp (.tp2 (.nm 5) (.nm 6)) (.v (.call (PySem.Str.ofString "rows_of") (.cons (.ixv 0 (.neg (.con (.int 1)))) .nil))) .none (.tup (.cons (.call (PySem.Str.ofString "paid") (.cons (.var 0) (.cons (.var 5) .nil))) (.cons (.var 6) .nil))) [5, 6]) .nil))) .nil) .nil) (.cons (.asgt (.tp2 (.nm 1) (.nm 2)) (.tup (.cons (.bi .sum (.cons (.comp (.tp2 (.nm 3) (.nm 4)) (.v (.ixv 0 (.con (.int 1)))) .none (.var 3) [3, 4]) .nil)) (.cons (.lst .nil) .nil)))) (.cons (.forr (.tp2 (.nm 3) (.nm 4)) (.v (.ixv 0 (.con (.int 1)))) (.cons (.asg 2 false (.bin .add (.var 2) (.comp (.tp2 (.nm 5) (.nm 6)) (.v (.call (PySem.Str.ofString "rows_of") (.cons (.var 4) .nil))) .none (.tup (.cons (.var 5) (.cons (.call (PySem.Str.ofString "times") (.cons (.var 6) (.cons (.call (PySem.Str.ofString "lowest") (.cons (.var 3) (.cons (.var 1) .nil))) .nil))) .nil))) [5, 6]))) .nil)) (.cons (.ret (.call (PySem.Str.ofString "joined") (.cons (.var 2) .nil))) .nil))))) }
def mean_of : MF := { np := 1, ns := 3, own := false, body := (.cons (.ret (.call (PySem.Str.ofString "total") (.cons (.comp (.tp2 (.nm 1) (.nm 2)) (.v (.var 0)) .none (.call (PySem.Str.ofString "times") (.cons (.var 1) (.cons (.var 2) .nil))) [1, 2]) .nil))) .nil) }
def rows : MF := { np := 1, ns := 1, own := false, body := (.cons (.expr (.call (PySem.Str.ofString "need_contract") (.cons (.var 0) .nil))) (.cons (.ret (.call (PySem.Str.ofString "rows_of") (.cons (.var 0) .nil))) .nil)) }
def mean : MF := { np := 1, ns := 1, own := false, body := (.cons (.expr (.call (PySem.Str.ofString "need_contract") (.cons (.var 0) .nil))) (.cons (.ret (.call (PySem.Str.ofString "mean_of") (.cons (.call (PySem.Str.ofString "rows_of") (.cons (.var 0) .nil)) .nil))) .nil)) }
def _law_vat : MF := { np := 2, ns := 3, own := false, body := (.cons (.asg 2 false (.bin .add (.bin .mul (.con (.int 7919)) (.var 1)) (.con (.int 43)))) (.cons (.iff (.v (.cmp .lt (.var 1) (.lenv 0))) (.cons (.asg 2 false (.bi .abs (.cons (.bi .int (.cons (.ixv 0 (.var 1)) .nil)) .nil))) .nil) .nil) (.cons (.ret (.lst (.cons (.ife (.v (.cmp .ge (.var 2) (.bin .pow (.con (.int 10)) (.con (.int 18))))) (.var 2) (.con (.int 0))) (.cons (.bin .add (.bin .mod (.bi .int (.cons (.bin .add (.bin .add (.bin .mul (.var 2) (.con (.int 131071))) (.bin .mul (.con (.int 8191)) (.var 1))) (.con (.int 5))) .nil)) (.con (.int 2147483629))) (.con (.int 1))) .nil)))) .nil))) }
def _law_under : MF := { np := 2, ns := 4, own := true, body := (.cons (.iff (.v (.cmp .gt (.ixv 0 (.con (.int 0))) (.con (.int 0)))) (.cons (.asg 3 false (.bin .mod (.bi .int (.cons (.ixv 0 (.con (.int 0))) .nil)) (.var 1))) (.cons (.setix 0 (.con (.int 0)) (.bin .fdiv (.ixv 0 (.con (.int 0))) (.var 1))) (.cons (.retv 3) .nil))) .nil) (.cons (.setix 0 (.con (.int 1)) (.bin .mod (.bi .int (.cons (.bin .add (.bin .mul (.ixv 0 (.con (.int 1))) (.con (.int 39373))) (.con (.int 101))) .nil)) (.con (.int 2147483629)))) (.cons (.asg 2 false (.bin .mod (.bi .int (.cons (.bin .mul (.ixv 0 (.con (.int 1))) (.bin .add (.bin .fdiv (.ixv 0 (.con (.int 1))) (.con (.int 5))) (.con (.int 9)))) .nil)) (.con (.int 2147483587)))) (.cons (.ret (.bin .mod (.bi .int (.cons (.bin .fdiv (.var 2) (.con (.int 32))) .nil)) (.var 1))) .nil)))) }
def _law_some : MF := { np := 2, ns := 2, own := true, body := (.cons (.ret (.ixv 1 (.callo (PySem.Str.ofString "_law_under") 0 (.cons (.lenv 1) .nil)))) .nil) }
def _law_is_whole : MF := { np := 3, ns := 3, own := false, body := (.cons (.ret (.and (.isi [.int] (.var 0)) (.and (.not (.isi [.bool] (.var 0))) (.chain .le .le (.var 1) (.var 0) (.var 2))))) .nil) }
def _law_low : MF := { np := 2, ns := 4, own := false, body := (.cons (.par [(2, false), (3, false)] (.cons (.bi .abs (.cons (.var 0) .nil)) (.cons (.bi .abs (.cons (.var 1) .nil)) .nil))) (.cons (.whil (.v (.cmp .ne (.var 3) (.con (.int 0)))) (.cons (.par [(2, false), (3, false)] (.cons (.var 3) (.cons (.bin .mod (.var 2) (.var 3)) .nil))) .nil)) (.cons (.asg 2 false (.ife (.v (.cmp .gt (.var 1) (.con (.int 0)))) (.var 2) (.neg (.var 2)))) (.cons (.ret (.tup (.cons (.bin .fdiv (.var 0) (.var 2)) (.cons (.bin .fdiv (.var 1) (.var 2)) .nil)))) .nil)))) }
def _law_add : MF := { np := 2, ns := 2, own := false, body := (.cons (.ret (.call (PySem.Str.ofString "_law_low") (.cons (.bin .add (.bin .mul (.ixv 0 (.con (.int 0))) (.ixv 1 (.con (.int 1)))) (.bin .mul (.ixv 1 (.con (.int 0))) (.ixv 0 (.con (.int 1))))) (.cons (.bin .mul (.ixv 0 (.con (.int 1))) (.ixv 1 (.con (.int 1)))) .nil)))) .nil) }
def _law_less : MF := { np := 2, ns := 2, own := false, body := (.cons (.ret (.cmp .lt (.bin .mul (.ixv 0 (.con (.int 0))) (.ixv 1 (.con (.int 1)))) (.bin .mul (.ixv 1 (.con (.int 0))) (.ixv 0 (.con (.int 1)))))) .nil) }
def _law_mul : MF := { np := 2, ns := 2, own := false, body := (.cons (.ret (.call (PySem.Str.ofString "_law_low") (.cons (.bin .mul (.ixv 0 (.con (.int 0))) (.ixv 1 (.con (.int 0)))) (.cons (.bin .mul (.ixv 0 (.con (.int 1))) (.ixv 1 (.con (.int 1)))) .nil)))) .nil) }
def _law_sum : MF := { np := 1, ns := 3, own := false, body := (.cons (.asg 1 false (.tup (.cons (.con (.int 0)) (.cons (.con (.int 1)) .nil)))) (.cons (.forr (.nm 2) (.v (.var 0)) (.cons (.asg 1 false (.call (PySem.Str.ofString "_law_add") (.cons (.var 1) (.cons (.var 2) .nil)))) .nil)) (.cons (.retv 1) .nil))) }
def _law_ordered : MF := { np := 1, ns := 5, own := false, body := (.cons (.asg 1 false (.lst .nil)) (.cons (.forr (.nm 2) (.v (.var 0)) (.cons (.iff (.v (.cmp .notin (.var 2) (.var 1))) (.cons (.asg 3 false (.bi .len (.cons (.comp (.nm 4) (.v (.var 1)) (.some (.v (.call (PySem.Str.ofString "_law_less") (.cons (.var 4) (.cons (.var 2) .nil))))) (.var 4) [4]) .nil))) (.cons (.asg 1 false (.bin .add (.bin .add (.sl (.var 1) .none (.some (.var 3))) (.lst (.cons (.var 2) .nil))) (.sl (.var 1) (.some (.var 3)) .none))) .nil)) .nil) .nil)) (.cons (.retv 1) .nil))) }
def _law_shape : MF := { np := 1, ns := 4, own := false, body := (.cons (.iff (.or (.not (.v (.isi [.tuple] (.var 0)))) (.or (.v (.cmp .eq (.var 0) (.tup .nil))) (.not (.v (.isi [.str] (.ixv 0 (.con (.int 0)))))))) (.cons (.ret (.con .non)) .nil) .nil) (.cons (.par [(1, false), (2, false)] (.cons (.ixv 0 (.con (.int 0))) (.cons (.lenv 0) .nil))) (.cons (.iff (.v (.cmp .eq (.var 1) (.con (.str (PySem.Str.ofString "draw"))))) (.cons (.iff (.or (.v (.cmp .ne (.var 2) (.con (.int 2)))) (.or (.not (.v (.isi [.tuple] (.ixv 0 (.con (.int 1)))))) (.not (.v (.chain .le .le (.con (.int 1)) (.bi .len (.cons (.ixv 0 (.con (.int 1))) .nil)) (.con (.int 4))))))) (.cons (.ret (.con .non)) .nil) .nil) (.cons (.forr (.nm 3) (.v (.ixv 0 (.con (.int 1)))) (.cons (.iff (.or (.not (.v (.isi [.tuple] (.var 3)))) (.or (.v (.cmp .ne (.lenv 3) (.con (.int 2)))) (.not (.v (.call (PySem.Str.ofString "_law_is_whole") (.cons (.ixv 3 (.con (.int 0))) (.cons (.con (.int 1)) (.cons (.con (.int 12)) .nil)))))))) (.cons (.ret (.con .non)) .nil) .nil) .nil)) (.cons (.ret (.comp (.nm 3) (.v (.ixv 0 (.con (.int 1)))) .none (.ixv 3 (.con (.int 1))) [3])) .nil))) .nil) (.cons (.iff (.v (.cmp .in_ (.var 1) (.lst (.cons (.con (.str (PySem.Str.ofString "sure"))) (.cons (.con (.str (PySem.Str.ofString "cap"))) (.cons (.con (.str (PySem.Str.ofString "floor"))) (.cons (.con (.str (PySem.Str.ofString "more"))) .nil))))))) (.cons (.iff (.or (.v (.cmp .ne (.var 2) (.ife (.v (.cmp .eq (.var 1) (.con (.str (PySem.Str.ofString "sure"))))) (.con (.int 2)) (.con (.int 3))))) (.not (.v (.call (PySem.Str.ofString "_law_is_whole") (.cons (.ixv 0 (.con (.int 1))) (.cons (.neg (.con (.int 1000))) (.cons (.con (.int 1000)) .nil))))))) (.cons (.ret (.con .non)) .nil) .nil) (.cons (.ret (.bi .list (.cons (.sl (.var 0) (.some (.con (.int 2))) .none) .nil))) .nil)) .nil) (.cons (.iff (.v (.cmp .ne (.var 2) (.tget (.ddisp [((PySem.Str.ofString "share"), 4), ((PySem.Str.ofString "insured"), 5)]) (.var 1) (.con (.int 0))))) (.cons (.ret (.con .non)) .nil) .nil) (.cons (.iff (.or (.not (.v (.call (PySem.Str.ofString "_law_is_whole") (.cons (.ixv 0 (.con (.int 1))) (.cons (.con (.int 0)) (.cons (.con (.int 12)) .nil)))))) (.not (.v (.call (PySem.Str.ofString "_law_is_whole") (.cons (.ixv 0 (.con (.int 2))) (.cons (.con (.int 1)) (.cons (.con (.int 12)) .nil))))))) (.cons (.ret (.con .non)) .nil) .nil) (.cons (.iff (.and (.v (.cmp .eq (.var 1) (.con (.str (PySem.Str.ofString "insured"))))) (.not (.and (.v (.cmp .le (.ixv 0 (.con (.int 1))) (.ixv 0 (.con (.int 2))))) (.v (.call (PySem.Str.ofString "_law_is_whole") (.cons (.ixv 0 (.con (.int 3))) (.cons (.neg (.con (.int 1000))) (.cons (.con (.int 1000)) .nil)))))))) (.cons (.ret (.con .non)) .nil) .nil) (.cons (.ret (.lst (.cons (.ixv 0 (.neg (.con (.int 1)))) .nil))) .nil)))))))) }
def _law_ends : MF := { np := 2, ns := 4, own := false, body := (.cons (.asg 2 false (.call (PySem.Str.ofString "_law_shape") (.cons (.var 0) .nil))) (.cons (.iff (.or (.v (.cmp .is_ (.var 2) (.con .non))) (.v (.cmp .eq (.var 1) (.con (.int 0))))) (.cons (.ret (.con (.int 1000))) .nil) .nil) (.cons (.ret (.ife (.v (.cmp .eq (.var 2) (.lst .nil))) (.con (.int 1)) (.bi .sum (.cons (.comp (.nm 3) (.v (.var 2)) .none (.bi .int (.cons (.call (PySem.Str.ofString "_law_ends") (.cons (.var 3) (.cons (.bin .sub (.var 1) (.con (.int 1))) .nil))) .nil)) [3]) .nil)))) .nil))) }
def _law_is_contract : MF := { np := 1, ns := 1, own := false, body := (.cons (.ret (.cmp .le (.call (PySem.Str.ofString "_law_ends") (.cons (.var 0) (.cons (.con (.int 6)) .nil))) (.con (.int 12)))) .nil) }
def _law_pays : MF := { np := 1, ns := 9, own := false, body := (.cons (.asg 1 false (.ixv 0 (.con (.int 0)))) (.cons (.iff (.v (.cmp .eq (.var 1) (.con (.str (PySem.Str.ofString "sure"))))) (.cons (.ret (.lst (.cons (.tup (.cons (.tup (.cons (.ixv 0 (.con (.int 1))) (.cons (.con (.int 1)) .nil))) (.cons (.tup (.cons (.con (.int 1)) (.cons (.con (.int 1)) .nil))) .nil))) .nil))) .nil) .nil) (.cons (.asg 2 true (.lst .nil)) (.cons (.iff (.v (.cmp .eq (.var 1) (.con (.str (PySem.Str.ofString "draw"))))) (.cons (.asg 3 false (.bi .sum (.cons (.comp (.nm 8) (.v (.ixv 0 (.con (.int 1)))) .none (.ixv 8 (.con (.int 0))) [8]) .nil))) (.cons (.forr (.tp2 (.nm 6) (.nm 7)) (.v (.ixv 0 (.con (.int 1)))) (.cons (.forr (.tp2 (.nm 4) (.nm 5)) (.v (.call (PySem.Str.ofString "_law_pays") (.cons (.var 7) .nil))) (.cons (.app 2 (.tup (.cons (.var 4) (.cons (.call (PySem.Str.ofString "_law_mul") (.cons (.var 5) (.cons (.tup (.cons (.var 6) (.cons (.var 3) .nil))) .nil))) .nil)))) .nil)) .nil)) (.cons (.retv 2) .nil))) .nil) (.cons (.forr (.tp2 (.nm 4) (.nm 5)) (.v (.call (PySem.Str.ofString "_law_pays") (.cons (.ixv 0 (.neg (.con (.int 1)))) .nil))) (.cons (.app 2 (.tup (.cons (.call (PySem.Str.ofString "_law_made") (.cons (.var 0) (.cons (.var 4) .nil))) (.cons (.var 5) .nil)))) .nil)) (.cons (.retv 2) .nil)))))) }
def _law_made : MF := { np := 2, ns := 5, own := false, body := (.cons (.asg 2 false (.ixv 0 (.con (.int 0)))) (.cons (.iff (.v (.cmp .in_ (.var 2) (.lst (.cons (.con (.str (PySem.Str.ofString "cap"))) (.cons (.con (.str (PySem.Str.ofString "floor"))) .nil))))) (.cons (.asg 4 false (.call (PySem.Str.ofString "_law_less") (.cons (.var 1) (.cons (.tup (.cons (.ixv 0 (.con (.int 1))) (.cons (.con (.int 1)) .nil))) .nil)))) (.cons (.ret (.ife (.v (.cmp .eq (.var 4) (.cmp .eq (.var 2) (.con (.str (PySem.Str.ofString "cap")))))) (.var 1) (.tup (.cons (.ixv 0 (.con (.int 1))) (.cons (.con (.int 1)) .nil))))) .nil)) .nil) (.cons (.iff (.v (.cmp .eq (.var 2) (.con (.str (PySem.Str.ofString "more"))))) (.cons (.ret (.call (PySem.Str.ofString "_law_add") (.cons (.var 1) (.cons (.tup (.cons (.ixv 0 (.con (.int 1))) (.cons (.con (.int 1)) .nil))) .nil)))) .nil) .nil) (.cons (.iff (.v (.cmp .eq (.var 2) (.con (.str (PySem.Str.ofString "share"))))) (.cons (.ret (.call (PySem.Str.ofString "_law_mul") (.cons (.var 1) (.cons (.tup (.cons (.ixv 0 (.con (.int 1))) (.cons (.ixv 0 (.con (.int 2))) .nil))) .nil)))) .nil) .nil) (.cons (.asg 3 false (.call (PySem.Str.ofString "_law_add") (.cons (.tup (.cons (.ixv 0 (.con (.int 3))) (.cons (.con (.int 1)) .nil))) (.cons (.tup (.cons (.neg (.ixv 1 (.con (.int 0)))) (.cons (.ixv 1 (.con (.int 1))) .nil))) .nil)))) (.cons (.ret (.ife (.v (.cmp .lt (.ixv 3 (.con (.int 0))) (.con (.int 0)))) (.var 1) (.call (PySem.Str.ofString "_law_add") (.cons (.var 1) (.cons (.call (PySem.Str.ofString "_law_mul") (.cons (.var 3) (.cons (.tup (.cons (.ixv 0 (.con (.int 1))) (.cons (.ixv 0 (.con (.int 2))) .nil))) .nil))) .nil))))) .nil)))))) }
def _law_rows : MF := { np := 1, ns := 1, own := false, body := (.cons (.ret (.call (PySem.Str.ofString "_law_joined") (.cons (.call (PySem.Str.ofString "_law_pays") (.cons (.var 0) .nil)) .nil))) .nil) }
def _law_joined : MF := { np := 1, ns := 6, own := false, body := (.cons (.asg 1 true (.lst .nil)) (.cons (.forr (.nm 2) (.v (.call (PySem.Str.ofString "_law_ordered") (.cons (.comp (.nm 3) (.v (.var 0)) .none (.ixv 3 (.con (.int 0))) [3]) .nil))) (.cons (.app 1 (.tup (.cons (.var 2) (.cons (.call (PySem.Str.ofString "_law_sum") (.cons (.comp (.tp2 (.nm 4) (.nm 5)) (.v (.var 0)) (.some (.v (.cmp .eq (.var 4) (.var 2)))) (.var 5) [4, 5]) .nil)) .nil)))) .nil)) (.cons (.retv 1) .nil))) }
def _law_contract : MF := { np := 2, ns := 8, own := true, body := (.cons (.asg 2 false (.ife (.v (.cmp .gt (.var 1) (.con (.int 1)))) (.callo (PySem.Str.ofString "_law_under") 0 (.cons (.con (.int 10)) .nil)) (.con (.int 0)))) (.cons (.iff (.v (.cmp .lt (.var 2) (.con (.int 3)))) (.cons (.ret (.tup (.cons (.con (.str (PySem.Str.ofString "sure"))) (.cons (.callo (PySem.Str.ofString "_law_some") 0 (.cons (.lst (.cons (.con (.int 0)) (.cons (.con (.int 1)) (.cons (.con (.int 2)) (.cons (.con (.int 3)) (.cons (.con (.int 4)) (.cons (.con (.int 5)) (.cons (.con (.int 6)) (.cons (.con (.int 8)) (.cons (.con (.int 10)) (.cons (.con (.int 12)) (.cons (.neg (.con (.int 3))) (.cons (.neg (.con (.int 7))) .nil))))))))))))) .nil)) .nil)))) .nil) .nil) (.cons (.iff (.v (.cmp .lt (.var 2) (.con (.int 7)))) (.cons (.asg 4 true (.lst .nil)) (.cons (.forr (.nm 5) (.r1 (.bin .add (.con (.int 2)) (.callo (PySem.Str.ofString "_law_under") 0 (.cons (.con (.int 2)) .nil)))) (.cons (.app 4 (.tup (.cons (.callo (PySem.Str.ofString "_law_some") 0 (.cons (.lst (.cons (.con (.int 1)) (.cons (.con (.int 1)) (.cons (.con (.int 1)) (.cons (.con (.int 2)) (.cons (.con (.int 3)) .nil)))))) .nil)) (.cons (.callo (PySem.Str.ofString "_law_contract") 0 (.cons (.bin .sub (.var 1) (.con (.int 1))) .nil)) .nil)))) .nil)) (.cons (.ret (.tup (.cons (.con (.str (PySem.Str.ofString "draw"))) (.cons (.bi .tuple (.cons (.var 4) .nil)) .nil)))) .nil))) .nil) (.cons (.par [(6, false), (7, false)] (.cons (.callo (PySem.Str.ofString "_law_contract") 0 (.cons (.bin .sub (.var 1) (.con (.int 1))) .nil)) (.cons (.bin .sub (.callo (PySem.Str.ofString "_law_under") 0 (.cons (.con (.int 12)) .nil)) (.con (.int 2))) .nil))) (.cons (.iff (.v (.cmp .eq (.var 2) (.con (.int 7)))) (.cons (.ret (.tup (.cons (.callo (PySem.Str.ofString "_law_some") 0 (.cons (.lst (.cons (.con (.str (PySem.Str.ofString "cap"))) (.cons (.con (.str (PySem.Str.ofString "floor"))) (.cons (.con (.str (PySem.Str.ofString "more"))) .nil)))) .nil)) (.cons (.var 7) (.cons (.var 6) .nil))))) .nil) .nil) (.cons (.iff (.v (.cmp .eq (.var 2) (.con (.int 8)))) (.cons (.ret (.tup (.cons (.con (.str (PySem.Str.ofString "share"))) (.cons (.callo (PySem.Str.ofString "_law_under") 0 (.cons (.con (.int 4)) .nil)) (.cons (.bin .add (.con (.int 1)) (.callo (PySem.Str.ofString "_law_under") 0 (.cons (.con (.int 3)) .nil))) (.cons (.var 6) .nil)))))) .nil) .nil) (.cons (.asg 3 false (.callo (PySem.Str.ofString "_law_under") 0 (.cons (.con (.int 4)) .nil))) (.cons (.ret (.tup (.cons (.con (.str (PySem.Str.ofString "insured"))) (.cons (.var 3) (.cons (.bin .add (.bi .max2 (.cons (.con (.int 1)) (.cons (.var 3) .nil))) (.callo (PySem.Str.ofString "_law_under") 0 (.cons (.con (.int 2)) .nil))) (.cons (.var 7) (.cons (.var 6) .nil))))))) .nil)))))))) }
def _law_small : MF := { np := 2, ns := 3, own := true, body := (.cons (.asg 2 false (.callo (PySem.Str.ofString "_law_contract") 0 (.cons (.var 1) .nil))) (.cons (.ret (.ife (.v (.call (PySem.Str.ofString "_law_is_contract") (.cons (.var 2) .nil))) (.var 2) (.tup (.cons (.con (.str (PySem.Str.ofString "draw"))) (.cons (.tup (.cons (.tup (.cons (.con (.int 1)) (.cons (.tup (.cons (.con (.str (PySem.Str.ofString "sure"))) (.cons (.con (.int 1)) .nil))) .nil))) (.cons (.tup (.cons (.con (.int 1)) (.cons (.tup (.cons (.con (.str (PySem.Str.ofString "sure"))) (.cons (.con (.int 6)) .nil))) .nil))) .nil))) .nil))))) .nil)) }
def law : MF := { np := 1, ns := 13, own := false, body := (.cons (.forr (.nm 1) (.r1 (.bi .max2 (.cons (.con (.int 6)) (.cons (.bi .min2 (.cons (.con (.int 14)) (.cons (.lenv 0) .nil))) .nil)))) (.cons (.asg 3 true (.call (PySem.Str.ofString "_law_vat") (.cons (.var 0) (.cons (.var 1) .nil)))) (.cons (.forr (.nm 4) (.r1 (.con (.int 4))) (.cons (.asg 7 false (.callo (PySem.Str.ofString "_law_small") 3 (.cons (.bin .add (.con (.int 2)) (.callo (PySem.Str.ofString "_law_under") 3 (.cons (.con (.int 4)) .nil))) .nil))) (.cons (.asg 8 false (.call (PySem.Str.ofString "_law_rows") (.cons (.var 7) .nil))) (.cons (.asg 9 false (.call (PySem.Str.ofString "_law_sum") (.cons (.comp (.tp2 (.nm 11) (.nm 12)) (.v (.var 8)) .none (.call (PySem.Str.ofString "_law_mul") (.cons (.var 11) (.cons (.var 12) .nil))) [11, 12]) .nil))) (.cons (.iff (.or (.v (.cmp .ne (.call (PySem.Str.ofString "rows") (.cons (.var 7) .nil)) (.var 8))) (.v (.cmp .ne (.call (PySem.Str.ofString "mean") (.cons (.var 7) .nil)) (.var 9)))) (.cons (.ret (.con (.bl false))) .nil) .nil) (.cons (.asg 10 true (.call (PySem.Str.ofString "rows") (.cons (.var 7) .nil))) (.cons (.app 10 (.con (.str (PySem.Str.ofString "odd")))) (.cons (.iff (.v (.cmp .ne (.call (PySem.Str.ofString "rows") (.cons (.var 7) .nil)) (.var 8))) (.cons (.ret (.con (.bl false))) .nil) .nil) .nil)))))))) .nil))) (.cons (.asgt (.tp2 (.nm 5) (.nm 6)) (.tup (.cons (.tup (.cons (.con (.str (PySem.Str.ofString "draw"))) (.cons (.tup (.cons (.tup (.cons (.con (.int 1)) (.cons (.tup (.cons (.con (.str (PySem.Str.ofString "sure"))) (.cons (.con (.int 0)) .nil))) .nil))) (.cons (.tup (.cons (.con (.int 1)) (.cons (.tup (.cons (.con (.str (PySem.Str.ofString "sure"))) (.cons (.con (.int 10)) .nil))) .nil))) .nil))) .nil))) (.cons (.tup (.cons (.con (.int 1)) (.cons (.con (.int 2)) .nil))) .nil)))) (.cons (.iff (.or (.v (.cmp .ne (.call (PySem.Str.ofString "rows") (.cons (.tup (.cons (.con (.str (PySem.Str.ofString "insured"))) (.cons (.con (.int 1)) (.cons (.con (.int 2)) (.cons (.con (.int 6)) (.cons (.var 5) .nil)))))) .nil)) (.lst (.cons (.tup (.cons (.tup (.cons (.con (.int 3)) (.cons (.con (.int 1)) .nil))) (.cons (.var 6) .nil))) (.cons (.tup (.cons (.tup (.cons (.con (.int 10)) (.cons (.con (.int 1)) .nil))) (.cons (.var 6) .nil))) .nil))))) (.v (.cmp .ne (.call (PySem.Str.ofString "mean") (.cons (.var 5) .nil)) (.tup (.cons (.con (.int 5)) (.cons (.con (.int 1)) .nil)))))) (.cons (.ret (.con (.bl false))) .nil) .nil) (.cons (.iff (.or (.v (.cmp .ne (.call (PySem.Str.ofString "rows") (.cons (.tup (.cons (.con (.str (PySem.Str.ofString "cap"))) (.cons (.con (.int 5)) (.cons (.tup (.cons (.con (.str (PySem.Str.ofString "floor"))) (.cons (.con (.int 7)) (.cons (.var 5) .nil)))) .nil)))) .nil)) (.lst (.cons (.tup (.cons (.tup (.cons (.con (.int 5)) (.cons (.con (.int 1)) .nil))) (.cons (.tup (.cons (.con (.int 1)) (.cons (.con (.int 1)) .nil))) .nil))) .nil)))) (.v (.cmp .ne (.call (PySem.Str.ofString "rows") (.cons (.tup (.cons (.con (.str (PySem.Str.ofString "share"))) (.cons (.con (.int 0)) (.cons (.con (.int 3)) (.cons (.var 5) .nil))))) .nil)) (.lst (.cons (.tup (.cons (.tup (.cons (.con (.int 0)) (.cons (.con (.int 1)) .nil))) (.cons (.tup (.cons (.con (.int 1)) (.cons (.con (.int 1)) .nil))) .nil))) .nil))))) (.cons (.ret (.con (.bl false))) .nil) .nil) (.cons (.iff (.v (.cmp .ne (.call (PySem.Str.ofString "rows") (.cons (.tup (.cons (.con (.str (PySem.Str.ofString "draw"))) (.cons (.tup (.cons (.tup (.cons (.con (.int 2)) (.cons (.var 5) .nil))) (.cons (.tup (.cons (.con (.int 1)) (.cons (.tup (.cons (.con (.str (PySem.Str.ofString "sure"))) (.cons (.con (.int 10)) .nil))) .nil))) .nil))) .nil))) .nil)) (.lst (.cons (.tup (.cons (.tup (.cons (.con (.int 0)) (.cons (.con (.int 1)) .nil))) (.cons (.tup (.cons (.con (.int 1)) (.cons (.con (.int 3)) .nil))) .nil))) (.cons (.tup (.cons (.tup (.cons (.con (.int 10)) (.cons (.con (.int 1)) .nil))) (.cons (.tup (.cons (.con (.int 2)) (.cons (.con (.int 3)) .nil))) .nil))) .nil))))) (.cons (.ret (.con (.bl false))) .nil) .nil) (.cons (.iff (.v (.cmp .ne (.call (PySem.Str.ofString "rows") (.cons (.tup (.cons (.con (.str (PySem.Str.ofString "share"))) (.cons (.con (.int 2)) (.cons (.con (.int 3)) (.cons (.tup (.cons (.con (.str (PySem.Str.ofString "more"))) (.cons (.neg (.con (.int 1))) (.cons (.tup (.cons (.con (.str (PySem.Str.ofString "sure"))) (.cons (.con (.int 0)) .nil))) .nil)))) .nil))))) .nil)) (.lst (.cons (.tup (.cons (.tup (.cons (.neg (.con (.int 2))) (.cons (.con (.int 3)) .nil))) (.cons (.tup (.cons (.con (.int 1)) (.cons (.con (.int 1)) .nil))) .nil))) .nil)))) (.cons (.ret (.con (.bl false))) .nil) .nil) (.cons (.asg 2 false (.tup (.cons (.con (.str (PySem.Str.ofString "draw"))) (.cons (.tup (.cons (.tup (.cons (.con (.int 1)) (.cons (.tup (.cons (.con (.str (PySem.Str.ofString "sure"))) (.cons (.con (.int 6)) .nil))) .nil))) (.cons (.tup (.cons (.con (.int 3)) (.cons (.tup (.cons (.con (.str (PySem.Str.ofString "insured"))) (.cons (.con (.int 2)) (.cons (.con (.int 3)) (.cons (.con (.int 4)) (.cons (.tup (.cons (.con (.str (PySem.Str.ofString "more"))) (.cons (.neg (.con (.int 5))) (.cons (.var 5) .nil)))) .nil)))))) .nil))) .nil))) .nil)))) (.cons (.ret (.and (.cmp .eq (.call (PySem.Str.ofString "rows") (.cons (.var 2) .nil)) (.lst (.cons (.tup (.cons (.tup (.cons (.con (.int 1)) (.cons (.con (.int 1)) .nil))) (.cons (.tup (.cons (.con (.int 3)) (.cons (.con (.int 8)) .nil))) .nil))) (.cons (.tup (.cons (.tup (.cons (.con (.int 5)) (.cons (.con (.int 1)) .nil))) (.cons (.tup (.cons (.con (.int 3)) (.cons (.con (.int 8)) .nil))) .nil))) (.cons (.tup (.cons (.tup (.cons (.con (.int 6)) (.cons (.con (.int 1)) .nil))) (.cons (.tup (.cons (.con (.int 1)) (.cons (.con (.int 4)) .nil))) .nil))) .nil))))) (.cmp .eq (.call (PySem.Str.ofString "mean") (.cons (.var 2) .nil)) (.tup (.cons (.con (.int 15)) (.cons (.con (.int 4)) .nil)))))) .nil)))))))) }
end Lib

end
section
set_option linter.all false
set_option maxRecDepth 100000
/-! Evaluation, step by step: each row asks for the whole application. -/
namespace MP
open PySem (Str)
variable {α β : Type} (C : CallF) (env : En)
@[simp] theorem bind_ok' (a : α) (f : α → Out β) : (Out.ok a).bind f = f a := id rfl
@[simp] theorem bind_err' (e : Ex) (f : α → Out β) : (Out.err e : Out α).bind f = .err e := id rfl
@[simp] theorem bind_bad' (f : α → Out β) : (Out.bad : Out α).bind f = .bad := id rfl
@[simp] theorem noErr_ok' (a : α) : noErr (Out.ok a) = .ok a := id rfl
@[simp] theorem Rd_v (d : D) : (R.v d).d = d := id rfl
@[simp] theorem Rd_o (d : List D) : (R.o d).d = .lst d := id rfl
/-- a turn of a for, of a comprehension -/
def turn (u : Tg) (b : MB) (d : D) (env : En) : Out (Fl × En) := (put u d env).bind fun env => exs C b env
def turnC (tg : Tg) (c : MC) (elt : ME) (vs : List Nat) (d : D) (env : En) : Out (Option D × En) := (put tg d (wipes env vs)).bind fun env => (evc C c env).bind fun (b, env) =>
        if b then (ev C elt env).bind fun (x, env) => .ok (some x.d, env) else .ok (none, env)
@[simp] theorem turn_app (u : Tg) (b : MB) (d : D) : turn C u b d env = (put u d env).bind fun env => exs C b env := id rfl
@[simp] theorem turnC_app (tg : Tg) (c : MC) (elt : ME) (vs : List Nat) (d : D) : turnC C tg c elt vs d env = (put tg d (wipes env vs)).bind fun env => (evc C c env).bind fun (b, env) =>
        if b then (ev C elt env).bind fun (x, env) => .ok (some x.d, env) else .ok (none, env) := id rfl
@[simp] theorem forL_nil (b : D → En → Out (Fl × En)) : forL b [] env = .ok (.nx, env) := id rfl
@[simp] theorem forL_cons (b : D → En → Out (Fl × En)) (d : D) (ds : List D) : forL b (d :: ds) env = (b d env).bind fun (f, env) => match f with
      | .nx => forL b ds env
      | .rt r => .ok (.rt r, env) := id rfl
@[simp] theorem loopC_nil (t : D → En → Out (Option D × En)) (acc : List D) : loopC t [] env acc = .ok (acc, env) := id rfl
@[simp] theorem loopC_cons (t : D → En → Out (Option D × En)) (d : D) (ds acc : List D) : loopC t (d :: ds) env acc = (t d env).bind fun (o, env) => match o with
      | some x => loopC t ds env (acc ++ [x])
      | none => loopC t ds env acc := id rfl
@[simp] theorem exs_nil : exs C .nil env = .ok (.nx, env) := id rfl
@[simp] theorem exs_cons (s : MS) (b : MB) : exs C (.cons s b) env = (ex C s env).bind fun (f, env) => match f with
      | .nx => exs C b env
      | .rt r => .ok (.rt r, env) := id rfl
@[simp] theorem ex_expr (e : ME) : ex C (.expr e) env = (ev C e env).bind fun (_, env) => .ok (.nx, env) := id rfl
@[simp] theorem ex_asg (i : Nat) (o : Bool) (e : ME) : ex C (.asg i o e) env = (ev C e env).bind fun (r, env) => (store i o r env).bind fun env => .ok (.nx, env) := id rfl
@[simp] theorem ex_asgt (t : Tg) (e : ME) : ex C (.asgt t e) env = (ev C e env).bind fun (r, env) => (put t r.d env).bind fun env => .ok (.nx, env) := id rfl
@[simp] theorem ex_par (is : List (Nat × Bool)) (es : MEs) : ex C (.par is es) env = (evR C es env).bind fun (rs, env) => (stores is rs env).bind fun env => .ok (.nx, env) := id rfl
@[simp] theorem ex_setix (i : Nat) (ix e : ME) : ex C (.setix i ix e) env = match get env i with
      | .ow _ => (ev C e env).bind fun (r, env) => (ev C ix env).bind fun (y, env) => (match get env i, y.d with
        | .ow ds, .int k => (match place ds.length k with | some j => .ok (.nx, env.set i (.ow (ds.set j r.d))) | none => .bad)
        | _, _ => .bad)
      | _ => .bad := id rfl
@[simp] theorem ex_app (i : Nat) (e : ME) : ex C (.app i e) env = match get env i with
      | .ow _ => (ev C e env).bind fun (r, env) => (match get env i with
        | .ow ds => if ds.length < line then .ok (.nx, env.set i (.ow (ds ++ [r.d]))) else .bad
        | _ => .bad)
      | _ => .bad := id rfl
@[simp] theorem ex_dset (i : Nat) (k e : ME) : ex C (.dset i k e) env = if !isOd env i then .bad else (ev C e env).bind fun (r, env) => (ev C k env).bind fun (y, env) => match get env i, keyOf y.d with
      | .od kvs, some q => if kvs.length < line then .ok (.nx, env.set i (.od (dput q r.d kvs))) else .bad
      | _, _ => .bad := id rfl
@[simp] theorem ex_dnew (i : Nat) : ex C (.dnew i) env = if 0 < i ∧ i < env.length then .ok (.nx, env.set i (.od [])) else .bad := id rfl
@[simp] theorem ex_ret (e : ME) : ex C (.ret e) env = (ev C e env).bind fun (r, env) => .ok (.rt r, env) := id rfl
@[simp] theorem ex_retv (i : Nat) : ex C (.retv i) env = match get env i with
      | .fz d => .ok (.rt (.v d), env)
      | .ow ds => .ok (.rt (.o ds), env.set i .un)
      | _ => .bad := id rfl
@[simp] theorem ex_retn : ex C .retn env = .ok (.rt (.v .non), env) := id rfl
@[simp] theorem ex_iff (c : MT) (a b : MB) : ex C (.iff c a b) env = (evt C c env).bind fun (k, env) => if k then exs C a env else exs C b env := id rfl
@[simp] theorem ex_whil (c : MT) (b : MB) : ex C (.whil c b) env = whileL (evt C c) (exs C b) wfuel env := id rfl
@[simp] theorem ex_forr (t : Tg) (s : Src) (b : MB) : ex C (.forr t s b) env = (evsrc C s env).bind fun (ds, env) => forL (turn C t b) ds env := id rfl
@[simp] theorem ex_rais (x : Str) : ex C (.rais x) env = .err ⟨x⟩ := id rfl
@[simp] theorem ex_never : ex C .never env = .bad := id rfl
@[simp] theorem ex_pass : ex C .pass env = .ok (.nx, env) := id rfl
@[simp] theorem ev_var (i : Nat) : ev C (.var i) env = rd env i := id rfl
@[simp] theorem ev_con (d : D) : ev C (.con d) env = .ok (.v d, env) := id rfl
@[simp] theorem ev_tup (es : MEs) : ev C (.tup es) env = (evs C es env).bind fun (ds, env) => .ok (.v (.tup ds), env) := id rfl
@[simp] theorem ev_lst (es : MEs) : ev C (.lst es) env = (evs C es env).bind fun (ds, env) => .ok (.o ds, env) := id rfl
@[simp] theorem ev_neg (a : ME) : ev C (.neg a) env = (ev C a env).bind fun (r, env) => match r.d with | .int i => .ok (.v (.int (-i)), env) | _ => .bad := id rfl
@[simp] theorem ev_bin (o : Op2) (a b : ME) : ev C (.bin o a b) env = (ev C a env).bind fun (x, env) => (ev C b env).bind fun (y, env) => (bin2 o x.d y.d).bind fun r => .ok (r, env) := id rfl
@[simp] theorem ev_cmp (o : CO) (a b : ME) : ev C (.cmp o a b) env = (ev C a env).bind fun (x, env) => (ev C b env).bind fun (y, env) => (cmp2 o x.d y.d).bind fun r => .ok (.v (.bl r), env) := id rfl
@[simp] theorem ev_chain (o1 o2 : CO) (a b c : ME) : ev C (.chain o1 o2 a b c) env = (ev C a env).bind fun (x, env) => (ev C b env).bind fun (y, env) => (cmp2 o1 x.d y.d).bind fun r =>
      if r then (ev C c env).bind fun (z, env) => (cmp2 o2 y.d z.d).bind fun r => .ok (.v (.bl r), env) else .ok (.v (.bl false), env) := id rfl
@[simp] theorem ev_and (a b : ME) : ev C (.and a b) env = (ev C a env).bind fun (x, env) => match x.d with | .bl true => ev C b env | .bl false => .ok (.v (.bl false), env) | _ => .bad := id rfl
@[simp] theorem ev_or (a b : ME) : ev C (.or a b) env = (ev C a env).bind fun (x, env) => match x.d with | .bl false => ev C b env | .bl true => .ok (.v (.bl true), env) | _ => .bad := id rfl
@[simp] theorem ev_not (a : ME) : ev C (.not a) env = (ev C a env).bind fun (x, env) => (truth x.d).bind fun b => .ok (.v (.bl (!b)), env) := id rfl
@[simp] theorem ev_ife (c : MT) (a b : ME) : ev C (.ife c a b) env = (evt C c env).bind fun (k, env) => if k then ev C a env else ev C b env := id rfl
@[simp] theorem ev_ix (a i : ME) : ev C (.ix a i) env = (ev C a env).bind fun (x, env) => (ev C i env).bind fun (y, env) => (item x.d y.d).bind fun d => .ok (.v d, env) := id rfl
@[simp] theorem ev_ixv (s : Nat) (i : ME) : ev C (.ixv s i) env = if bound env s then (ev C i env).bind fun (y, env) => (pk env s).bind fun x => (item x y.d).bind fun d => .ok (.v d, env) else .bad := id rfl
@[simp] theorem ev_sl (a : ME) (lo hi : MO) : ev C (.sl a lo hi) env = (ev C a env).bind fun (x, env) => (evo C lo env).bind fun (l, env) => (evo C hi env).bind fun (h, env) => (slice x.d l h).bind fun r => .ok (r, env) := id rfl
@[simp] theorem ev_call (f : Str) (es : MEs) : ev C (.call f es) env = (evs C es env).bind fun (ds, env) => (C f [] ds).bind fun (r, _) => .ok (r, env) := id rfl
@[simp] theorem ev_callo (f : Str) (i : Nat) (es : MEs) : ev C (.callo f i es) env = match get env i with
      | .ow _ => (evs C es env).bind fun (ds, env) => (match get env i with
        | .ow xs => (noErr (C f xs ds)).bind fun (r, ys) => .ok (r, env.set i (.ow ys))
        | _ => .bad)
      | _ => .bad := id rfl
@[simp] theorem ev_bi (b : BI) (es : MEs) : ev C (.bi b es) env = (evs C es env).bind fun (ds, env) => (bi1 b ds).bind fun r => .ok (r, env) := id rfl
@[simp] theorem ev_lenv (i : Nat) : ev C (.lenv i) env = (pk env i).bind fun d => (blen d).bind fun r => .ok (r, env) := id rfl
@[simp] theorem ev_isi (tys : List Ty) (a : ME) : ev C (.isi tys a) env = (ev C a env).bind fun (x, env) => if tyOk x.d then .ok (.v (.bl (tys.any (isTy x.d))), env) else .bad := id rfl
@[simp] theorem ev_kget (kvs : List (Str × Int)) (a b : ME) : ev C (.kget kvs a b) env = (ev C a env).bind fun (x, env) => (ev C b env).bind fun (y, env) => (match x.d with
        | .str z => .ok (.v (match look kvs z with | some n => .int n | none => y.d), env)
        | _ => .bad) := id rfl
@[simp] theorem ev_kin (n : Bool) (kvs : List (Str × Int)) (a : ME) : ev C (.kin n kvs a) env = (ev C a env).bind fun (x, env) => (match x.d with
        | .str z => .ok (.v (.bl (if n then !(look kvs z).isSome else (look kvs z).isSome)), env)
        | _ => .bad) := id rfl
@[simp] theorem ev_kix (kvs : List (Str × Int)) (a : ME) : ev C (.kix kvs a) env = (ev C a env).bind fun (x, env) => (match x.d with
        | .str z => (match look kvs z with | some n => .ok (.v (.int n), env) | none => .bad)
        | _ => .bad) := id rfl
@[simp] theorem ev_tget (o a b : ME) : ev C (.tget o a b) env = (ev C o env).bind fun (t, env) => match t.d with
      | .dic kvs => (ev C a env).bind fun (x, env) => (ev C b env).bind fun (y, env) => (match x.d with
        | .str z => .ok (.v (match look kvs z with | some n => .int n | none => y.d), env)
        | _ => .bad)
      | _ => .bad := id rfl
@[simp] theorem ev_ddisp (kvs : List (Str × Int)) : ev C (.ddisp kvs) env = .ok (.v (.dic kvs), env) := id rfl
@[simp] theorem ev_dix (s : Nat) (i : ME) : ev C (.dix s i) env = if !isOd env s then .bad else (ev C i env).bind fun (y, env) => match get env s, keyOf y.d with
      | .od kvs, some k => (match dlook kvs k with | some d => .ok (.v d, env) | none => .bad)
      | _, _ => .bad := id rfl
@[simp] theorem ev_dget (i : Nat) (a b : ME) : ev C (.dget i a b) env = if !isOd env i then .bad else (ev C a env).bind fun (x, env) => (ev C b env).bind fun (y, env) => match get env i, keyOf x.d with
      | .od kvs, some k => .ok (.v ((dlook kvs k).getD y.d), env)
      | _, _ => .bad := id rfl
@[simp] theorem ev_dlist (i : Nat) : ev C (.dlist i) env = match get env i with
      | .od kvs => .ok (.o (kvs.map fun p => .tup (p.1.map .int)), env)
      | _ => .bad := id rfl
@[simp] theorem ev_comp (tg : Tg) (src : Src) (c : MC) (elt : ME) (vs : List Nat) : ev C (.comp tg src c elt vs) env = (evsrc C src env).bind fun (ds, env1) => if noOwn env1 vs then
      (noErr (loopC (turnC C tg c elt vs) ds env1 [])).bind fun (acc, env2) => .ok (.o acc, back env1 env2 vs) else .bad := id rfl
@[simp] theorem evt_v (e : ME) : evt C (.v e) env = (ev C e env).bind fun (x, env) => (truth x.d).bind fun b => .ok (b, env) := id rfl
@[simp] theorem evt_and (a b : MT) : evt C (.and a b) env = (evt C a env).bind fun (x, env) => if x then evt C b env else .ok (false, env) := id rfl
@[simp] theorem evt_or (a b : MT) : evt C (.or a b) env = (evt C a env).bind fun (x, env) => if x then .ok (true, env) else evt C b env := id rfl
@[simp] theorem evt_not (a : MT) : evt C (.not a) env = (evt C a env).bind fun (x, env) => .ok (!x, env) := id rfl
@[simp] theorem evs_nil : evs C .nil env = .ok ([], env) := id rfl
@[simp] theorem evs_cons (h : ME) (t : MEs) : evs C (.cons h t) env = (ev C h env).bind fun (x, env) => (evs C t env).bind fun (ds, env) => .ok (x.d :: ds, env) := id rfl
@[simp] theorem evR_nil : evR C .nil env = .ok ([], env) := id rfl
@[simp] theorem evR_cons (h : ME) (t : MEs) : evR C (.cons h t) env = (ev C h env).bind fun (x, env) => (evR C t env).bind fun (ds, env) => .ok (x :: ds, env) := id rfl
@[simp] theorem evo_none : evo C .none env = .ok (none, env) := id rfl
@[simp] theorem evo_some (a : ME) : evo C (.some a) env = (ev C a env).bind fun (x, env) => match x.d with | .int i => .ok (some i, env) | _ => .bad := id rfl
@[simp] theorem evc_none : evc C .none env = .ok (true, env) := id rfl
@[simp] theorem evc_some (a : MT) : evc C (.some a) env = evt C a env := id rfl
@[simp] theorem evsrc_v (e : ME) : evsrc C (.v e) env = (ev C e env).bind fun (x, env) => match items x.d with | some ds => .ok (ds, env) | none => .bad := id rfl
@[simp] theorem evsrc_r1 (a : ME) : evsrc C (.r1 a) env = (ev C a env).bind fun (x, env) => match x.d with | .int i => if rOk i then .ok (rangeD 0 i.toNat, env) else .bad | _ => .bad := id rfl
@[simp] theorem evsrc_r2 (a b : ME) : evsrc C (.r2 a b) env = (ev C a env).bind fun (x, env) => (ev C b env).bind fun (y, env) => match x.d, y.d with | .int i, .int j => if rOk i && rOk j then .ok (rangeD i (j - i).toNat, env) else .bad | _, _ => .bad := id rfl
@[simp] theorem cmp_lt (i j : Int) : cmp2 .lt (.int i) (.int j) = .ok (decide (i < j)) := id rfl
@[simp] theorem cmp_le (i j : Int) : cmp2 .le (.int i) (.int j) = .ok (decide (i ≤ j)) := id rfl
@[simp] theorem cmp_gt (i j : Int) : cmp2 .gt (.int i) (.int j) = .ok (decide (j < i)) := id rfl
@[simp] theorem cmp_ge (i j : Int) : cmp2 .ge (.int i) (.int j) = .ok (decide (j ≤ i)) := id rfl
theorem rd_fz {i : Nat} {d : D} (h : get env i = .fz d) : rd env i = .ok (.v d, env) := by unfold rd; rw [h]
@[simp] theorem rd_z (d : D) (r : En) : rd (.fz d :: r) 0 = .ok (.v d, .fz d :: r) := rd_fz _ rfl
@[simp] theorem rd_1 (s : Sl) (d : D) (r : En) : rd (s :: .fz d :: r) 1 = .ok (.v d, s :: .fz d :: r) := rd_fz _ rfl
@[simp] theorem rd_2 (s s1 : Sl) (d : D) (r : En) : rd (s :: s1 :: .fz d :: r) 2 = .ok (.v d, s :: s1 :: .fz d :: r) := rd_fz _ rfl
@[simp] theorem rd_3 (s s1 s2 : Sl) (d : D) (r : En) : rd (s :: s1 :: s2 :: .fz d :: r) 3 = .ok (.v d, s :: s1 :: s2 :: .fz d :: r) := rd_fz _ rfl
@[simp] theorem rd_4 (s s1 s2 s3 : Sl) (d : D) (r : En) : rd (s :: s1 :: s2 :: s3 :: .fz d :: r) 4 = .ok (.v d, s :: s1 :: s2 :: s3 :: .fz d :: r) := rd_fz _ rfl
@[simp] theorem rd_5 (s s1 s2 s3 s4 : Sl) (d : D) (r : En) : rd (s :: s1 :: s2 :: s3 :: s4 :: .fz d :: r) 5 = .ok (.v d, s :: s1 :: s2 :: s3 :: s4 :: .fz d :: r) := rd_fz _ rfl
@[simp] theorem rd_6 (s s1 s2 s3 s4 s5 : Sl) (d : D) (r : En) : rd (s :: s1 :: s2 :: s3 :: s4 :: s5 :: .fz d :: r) 6 = .ok (.v d, s :: s1 :: s2 :: s3 :: s4 :: s5 :: .fz d :: r) := rd_fz _ rfl
@[simp] theorem rd_7 (s s1 s2 s3 s4 s5 s6 : Sl) (d : D) (r : En) : rd (s :: s1 :: s2 :: s3 :: s4 :: s5 :: s6 :: .fz d :: r) 7 = .ok (.v d, s :: s1 :: s2 :: s3 :: s4 :: s5 :: s6 :: .fz d :: r) := rd_fz _ rfl
/-! slots: by getElem? -/
@[simp] theorem get_z (s : Sl) (r : En) : get (s :: r) 0 = s := id rfl
@[simp] theorem get_s (s : Sl) (r : En) (i : Nat) : get (s :: r) (i + 1) = get r i := id rfl
@[simp] theorem items_lst (ds : List D) : items (.lst ds) = some ds := id rfl
@[simp] theorem items_tup (ds : List D) : items (.tup ds) = some ds := id rfl
@[simp] theorem truth_bl (b : Bool) : truth (.bl b) = .ok b := id rfl
@[simp] theorem stores_nil : stores [] [] env = .ok env := id rfl
@[simp] theorem stores_cons (i : Nat) (o : Bool) (is : List (Nat × Bool)) (r : R) (rs : List R) : stores ((i, o) :: is) (r :: rs) env = (store i o r env).bind fun env => stores is rs env := id rfl
@[simp] theorem put_nm (i : Nat) (d : D) : put (.nm i) d env = if 0 < i ∧ i < env.length then .ok (env.set i (.fz d)) else .bad := id rfl
@[simp] theorem put_tp2 (a b : Tg) (x y : D) : put (.tp2 a b) (.tup [x, y]) env = (put a x env).bind fun e => put b y e := id rfl
@[simp] theorem store_f (i : Nat) (d : D) : store i false (.v d) env = if 0 < i ∧ i < env.length then .ok (env.set i (.fz d)) else .bad := id rfl
@[simp] theorem store_fo (i : Nat) (d : List D) : store i false (.o d) env = if 0 < i ∧ i < env.length then .ok (env.set i (.fz (.lst d))) else .bad := id rfl
@[simp] theorem store_o (i : Nat) (d : List D) : store i true (.o d) env = if 0 < i ∧ i < env.length then .ok (env.set i (.ow d)) else .bad := id rfl
@[simp] theorem noOwn_nil : noOwn env [] = true := id rfl
@[simp] theorem wipes_nil : wipes env [] = env := id rfl
@[simp] theorem wipes_cons (i : Nat) (r : List Nat) : wipes env (i :: r) = (wipes env r).set i .un := id rfl
@[simp] theorem back_nil (e0 : En) : back e0 env [] = env := id rfl
@[simp] theorem back_cons (e0 : En) (i : Nat) (r : List Nat) : back e0 env (i :: r) = (back e0 env r).set i (get e0 i) := id rfl
@[simp] theorem start_f (m : MF) (xs ds : List D) (h : m.own = false) : m.start xs ds = ds.map Sl.fz ++ List.replicate (m.ns - m.np) Sl.un := by unfold MF.start; rw [h]; rfl
end MP

end
section
set_option linter.all false
set_option maxRecDepth 100000
set_option maxHeartbeats 1000000
/-! Fractions: what lowest, plus .. compute. -/
namespace MP
open PySem (Str)
def fr (q : Rat) : D := .tup [.int q.num, .int q.den]
structure HasFrac (T : Tab) : Prop where
  lowest : T (Str.ofString "lowest") = some Lib.lowest
  plus : T (Str.ofString "plus") = some Lib.plus
  minus : T (Str.ofString "minus") = some Lib.minus
  times : T (Str.ofString "times") = some Lib.times
  is_below : T (Str.ofString "is_below") = some Lib.is_below
  lesser : T (Str.ofString "lesser") = some Lib.lesser
  greater : T (Str.ofString "greater") = some Lib.greater
  total : T (Str.ofString "total") = some Lib.total
/-- a call -/
theorem call_of {T : Tab} {x : Str} {m : MF} {k : Nat} {xs ds : List D} (h : T x = some m) : call T (k + 1) x xs ds = run (call T k) m xs ds := by
  show (match T x with | some m => run (call T k) m xs ds | none => .bad) = _
  rw [h]
theorem whileL_more {c : En → Out (Bool × En)} {b : En → Out (Fl × En)} : ∀ {n m : Nat} {env : En} {r : Fl × En}, n ≤ m → whileL c b n env = .ok r → whileL c b m env = .ok r
  | 0, _, _, _, _, h => by cases h
  | n + 1, 0, _, _, hl, _ => by omega
  | n + 1, m + 1, env, r, hl, h => by
    unfold whileL at h ⊢
    cases e : c env with
    | err _ => rw [e] at h; cases h
    | bad => rw [e] at h; cases h
    | ok p =>
      obtain ⟨k, env1⟩ := p
      rw [e] at h
      dsimp only [Out.bind] at h ⊢
      cases k with
      | false => exact h
      | true =>
        rw [if_pos rfl] at h ⊢
        cases e2 : b env1 with
        | err _ => rw [e2] at h; cases h
        | bad => rw [e2] at h; cases h
        | ok p =>
          obtain ⟨f, env2⟩ := p
          rw [e2] at h
          dsimp only [Out.bind] at h ⊢
          cases f with
          | rt _ => exact h
          | nx => exact whileL_more (by omega) h
/-- Euclid's loop, whatever the text -/
theorem gcd_loop {c : En → Out (Bool × En)} {bd : En → Out (Fl × En)} {t u : D} (hc : ∀ a b : Nat, c [.fz t, .fz u, .fz (.int a), .fz (.int b)] = .ok (decide (0 < b), [.fz t, .fz u, .fz (.int a), .fz (.int b)]))
    (hb : ∀ a b : Nat, 0 < b → bd [.fz t, .fz u, .fz (.int a), .fz (.int b)] = .ok (.nx, [.fz t, .fz u, .fz (.int b), .fz (.int (a % b : Nat))])) : ∀ (b a n : Nat), b < n →
    whileL c bd n [.fz t, .fz u, .fz (.int a), .fz (.int b)] = .ok (.nx, [.fz t, .fz u, .fz (.int (Nat.gcd a b)), .fz (.int (0 : Nat))]) := by
  intro b
  induction b using Nat.strongRecOn with
  | _ b ih =>
    intro a n hn
    cases n with
    | zero => omega
    | succ n =>
      unfold whileL
      rw [hc]
      dsimp only [Out.bind]
      by_cases h : b = 0
      · subst h
        simp
      · have hb0 : 0 < b := by omega
        rw [decide_eq_true hb0, if_pos rfl, hb a b hb0]
        dsimp only [Out.bind]
        rw [ih (a % b) (Nat.mod_lt _ hb0) b n (by have := Nat.mod_lt a hb0; omega)]
        rw [show Nat.gcd b (a % b) = Nat.gcd a b from by rw [Nat.gcd_comm a b, Nat.gcd_rec b a, Nat.gcd_comm]]
theorem wfuel_big {n : Nat} (h : n < 2 ^ 9000) : n < wfuel := by
  unfold wfuel
  exact Nat.lt_trans h (Nat.pow_lt_pow_right (by decide) (by decide))
theorem divOk_of {g : Nat} (h0 : 0 < g) (h : g < 2 ^ 9000) : divOk (g : Int) = true := by
  unfold divOk
  rw [Bool.and_eq_true]
  refine ⟨by simpa using h0, ?_⟩
  rw [decide_eq_true_eq, Int.natAbs_natCast]
  exact (Nat.log2_lt (by omega)).mpr h
theorem lowest_ok {T : Tab} (h : T (Str.ofString "lowest") = some Lib.lowest) (k : Nat) (t : Int) (b : Nat) (hb : 0 < b) (hs : b < 2 ^ 9000) :
    call T (k + 1) (Str.ofString "lowest") [] [.int t, .int b] = .ok (.v (.tup [.int (t / (Nat.gcd t.natAbs b : Nat)), .int (b / (Nat.gcd t.natAbs b : Nat) : Nat)]), []) := by
  rw [call_of h]
  unfold run Lib.lowest
  generalize call T k = C
  have g := gcd_loop (c := evt C (.v (.cmp .gt (.var 3) (.con (.int 0))))) (bd := exs C (.cons (.par [(2, false), (3, false)] (.cons (.var 3) (.cons (.bin .mod (.var 2) (.var 3)) .nil))) .nil)) (t := .int t) (u := .int b)
    (fun a b => by simp [rd, cmp2]) (fun a b hb => by simp [rd, bin2, hb]) b t.natAbs wfuel (wfuel_big hs)
  have h1 : (if t < 0 then -t else t) = (t.natAbs : Int) := by split <;> omega
  have h2 : (if (b : Int) < 0 then -(b : Int) else b) = b := by rw [if_neg (by omega)]
  have hg : 0 < Nat.gcd t.natAbs b := Nat.gcd_pos_of_pos_right _ hb
  have hd := divOk_of hg (Nat.lt_of_le_of_lt (Nat.le_of_dvd hb (Nat.gcd_dvd_right _ _)) hs)
  simp [MF.start, rd, bi1, babs, h1, h2, g, cmp2, bin2, hd, hb]
theorem lowest_fr {T : Tab} (h : T (Str.ofString "lowest") = some Lib.lowest) (k : Nat) (t : Int) (b : Nat) (hb : 0 < b) (hs : b < 2 ^ 9000) :
    call T (k + 1) (Str.ofString "lowest") [] [.int t, .int b] = .ok (.v (fr (mkRat t b)), []) := by
  rw [lowest_ok h k t b hb hs]
  have e : mkRat t b = Rat.normalize t b (by omega) := by rw [Rat.mkRat_def, dif_neg (by omega)]
  rw [e, Rat.normalize_eq]
  rfl
/-- a number that stays small -/
def Big : Nat := 2 ^ 3000
theorem Big_sq {a b : Nat} (ha : a < Big) (hb : b < Big) : a * b < 2 ^ 9000 := by
  have h1 : a * b ≤ Big * Big := Nat.mul_le_mul (Nat.le_of_lt ha) (Nat.le_of_lt hb)
  have h2 : Big * Big = 2 ^ 6000 := by unfold Big; rw [← Nat.pow_add]
  have h3 : (2 : Nat) ^ 6000 < 2 ^ 9000 := Nat.pow_lt_pow_right (by decide) (by decide)
  omega
theorem log_of {a n : Nat} (h : a < 2 ^ n) (hn : 0 < n) : a.log2 < n := by
  by_cases z : a = 0
  · subst z; simpa using hn
  · exact (Nat.log2_lt z).mpr h
theorem mulOk_of {i j : Int} (hi : i.natAbs < Big) (hj : j.natAbs < Big) : mulOk i j = true := by
  unfold mulOk
  have a := log_of hi (by decide)
  have b := log_of hj (by decide)
  rw [Bool.or_eq_true]
  right
  rw [decide_eq_true_eq]
  omega
structure Sm (q : Rat) : Prop where
  num : q.num.natAbs < Big
  den : q.den < Big
theorem Sm.den' {q : Rat} (h : Sm q) : (q.den : Int).natAbs < Big := by simpa using h.den
@[simp] theorem item0 (x : D) (r : List D) : item (.tup (x :: r)) (.int 0) = .ok x := by
  simp [item, at_, place]
@[simp] theorem item1 (x y : D) (r : List D) : item (.tup (x :: y :: r)) (.int 1) = .ok y := by
  have : (1 : Int) < (r.length : Int) + 1 + 1 := by omega
  simp [item, at_, place, this]
@[simp] theorem bound_fz (r : En) (i : Nat) (d : D) (h : get r i = .fz d) : bound r i = true := by unfold bound; rw [h]
theorem pk_fz {r : En} {i : Nat} {d : D} (h : get r i = .fz d) : pk r i = .ok d := by unfold pk; rw [h]
theorem ixv_ok {C : CallF} {r : En} {s : Nat} {e : ME} {d x : D} {i : Int} (h : get r s = .fz d) (he : ev C e r = .ok (.v (.int i), r)) (hx : item d (.int i) = .ok x) : ev C (.ixv s e) r = .ok (.v x, r) := by
  rw [ev_ixv, bound_fz r s d h, if_pos rfl, he, bind_ok']
  dsimp only
  rw [pk_fz h, bind_ok', Rd_v, hx, bind_ok']
theorem mul_ok {i j : Int} (hi : i.natAbs < Big) (hj : j.natAbs < Big) : bin2 .mul (.int i) (.int j) = .ok (.v (.int (i * j))) := by
  show (if mulOk i j = true then _ else _) = _
  rw [mulOk_of hi hj, if_pos rfl]
@[simp] theorem bin_add (i j : Int) : bin2 .add (.int i) (.int j) = .ok (.v (.int (i + j))) := id rfl
@[simp] theorem bin_sub (i j : Int) : bin2 .sub (.int i) (.int j) = .ok (.v (.int (i - j))) := id rfl
theorem plus_ok {T : Tab} (F : HasFrac T) (k : Nat) {p q : Rat} (hp : Sm p) (hq : Sm q) : call T (k + 2) (Str.ofString "plus") [] [fr p, fr q] = .ok (.v (fr (p + q)), []) := by
  rw [call_of F.plus]
  have l := lowest_fr F.lowest k (p.num * q.den + q.num * p.den) (p.den * q.den) (Nat.mul_pos p.den_pos q.den_pos) (Big_sq hp.den hq.den)
  rw [Int.natCast_mul, ← Rat.add_def'] at l
  generalize call T (k + 1) = C at l
  generalize hr : fr (p + q) = r at l ⊢
  have a0 : ev C (.ixv 0 (.con (.int 0))) [.fz (fr p), .fz (fr q)] = .ok (.v (.int p.num), [.fz (fr p), .fz (fr q)]) := ixv_ok rfl rfl rfl
  have a1 : ev C (.ixv 0 (.con (.int 1))) [.fz (fr p), .fz (fr q)] = .ok (.v (.int p.den), [.fz (fr p), .fz (fr q)]) := ixv_ok rfl rfl rfl
  have b0 : ev C (.ixv 1 (.con (.int 0))) [.fz (fr p), .fz (fr q)] = .ok (.v (.int q.num), [.fz (fr p), .fz (fr q)]) := ixv_ok rfl rfl rfl
  have b1 : ev C (.ixv 1 (.con (.int 1))) [.fz (fr p), .fz (fr q)] = .ok (.v (.int q.den), [.fz (fr p), .fz (fr q)]) := ixv_ok rfl rfl rfl
  unfold run Lib.plus
  simp [MF.start, a0, a1, b0, b1, mul_ok hp.num hq.den', mul_ok hq.num hp.den', mul_ok hp.den' hq.den', mul_ok hp.num hq.num, l, -ev_ixv]
theorem minus_ok {T : Tab} (F : HasFrac T) (k : Nat) {p q : Rat} (hp : Sm p) (hq : Sm q) : call T (k + 2) (Str.ofString "minus") [] [fr p, fr q] = .ok (.v (fr (p - q)), []) := by
  rw [call_of F.minus]
  have l := lowest_fr F.lowest k (p.num * q.den - q.num * p.den) (p.den * q.den) (Nat.mul_pos p.den_pos q.den_pos) (Big_sq hp.den hq.den)
  rw [Int.natCast_mul, ← Rat.sub_def'] at l
  generalize call T (k + 1) = C at l
  generalize hr : fr (p - q) = r at l ⊢
  have a0 : ev C (.ixv 0 (.con (.int 0))) [.fz (fr p), .fz (fr q)] = .ok (.v (.int p.num), [.fz (fr p), .fz (fr q)]) := ixv_ok rfl rfl rfl
  have a1 : ev C (.ixv 0 (.con (.int 1))) [.fz (fr p), .fz (fr q)] = .ok (.v (.int p.den), [.fz (fr p), .fz (fr q)]) := ixv_ok rfl rfl rfl
  have b0 : ev C (.ixv 1 (.con (.int 0))) [.fz (fr p), .fz (fr q)] = .ok (.v (.int q.num), [.fz (fr p), .fz (fr q)]) := ixv_ok rfl rfl rfl
  have b1 : ev C (.ixv 1 (.con (.int 1))) [.fz (fr p), .fz (fr q)] = .ok (.v (.int q.den), [.fz (fr p), .fz (fr q)]) := ixv_ok rfl rfl rfl
  unfold run Lib.minus
  simp [MF.start, a0, a1, b0, b1, mul_ok hp.num hq.den', mul_ok hq.num hp.den', mul_ok hp.den' hq.den', mul_ok hp.num hq.num, l, -ev_ixv]
theorem times_ok {T : Tab} (F : HasFrac T) (k : Nat) {p q : Rat} (hp : Sm p) (hq : Sm q) : call T (k + 2) (Str.ofString "times") [] [fr p, fr q] = .ok (.v (fr (p * q)), []) := by
  rw [call_of F.times]
  have l := lowest_fr F.lowest k (p.num * q.num) (p.den * q.den) (Nat.mul_pos p.den_pos q.den_pos) (Big_sq hp.den hq.den)
  rw [Int.natCast_mul, ← Rat.mul_def'] at l
  generalize call T (k + 1) = C at l
  generalize hr : fr (p * q) = r at l ⊢
  have a0 : ev C (.ixv 0 (.con (.int 0))) [.fz (fr p), .fz (fr q)] = .ok (.v (.int p.num), [.fz (fr p), .fz (fr q)]) := ixv_ok rfl rfl rfl
  have a1 : ev C (.ixv 0 (.con (.int 1))) [.fz (fr p), .fz (fr q)] = .ok (.v (.int p.den), [.fz (fr p), .fz (fr q)]) := ixv_ok rfl rfl rfl
  have b0 : ev C (.ixv 1 (.con (.int 0))) [.fz (fr p), .fz (fr q)] = .ok (.v (.int q.num), [.fz (fr p), .fz (fr q)]) := ixv_ok rfl rfl rfl
  have b1 : ev C (.ixv 1 (.con (.int 1))) [.fz (fr p), .fz (fr q)] = .ok (.v (.int q.den), [.fz (fr p), .fz (fr q)]) := ixv_ok rfl rfl rfl
  unfold run Lib.times
  simp [MF.start, a0, a1, b0, b1, mul_ok hp.num hq.den', mul_ok hq.num hp.den', mul_ok hp.den' hq.den', mul_ok hp.num hq.num, l, -ev_ixv]
theorem is_below_ok {T : Tab} (F : HasFrac T) (k : Nat) {p q : Rat} (hp : Sm p) (hq : Sm q) : call T (k + 1) (Str.ofString "is_below") [] [fr p, fr q] = .ok (.v (.bl (decide (p < q))), []) := by
  rw [call_of F.is_below]
  generalize call T k = C
  have a0 : ev C (.ixv 0 (.con (.int 0))) [.fz (fr p), .fz (fr q)] = .ok (.v (.int p.num), [.fz (fr p), .fz (fr q)]) := ixv_ok rfl rfl rfl
  have a1 : ev C (.ixv 0 (.con (.int 1))) [.fz (fr p), .fz (fr q)] = .ok (.v (.int p.den), [.fz (fr p), .fz (fr q)]) := ixv_ok rfl rfl rfl
  have b0 : ev C (.ixv 1 (.con (.int 0))) [.fz (fr p), .fz (fr q)] = .ok (.v (.int q.num), [.fz (fr p), .fz (fr q)]) := ixv_ok rfl rfl rfl
  have b1 : ev C (.ixv 1 (.con (.int 1))) [.fz (fr p), .fz (fr q)] = .ok (.v (.int q.den), [.fz (fr p), .fz (fr q)]) := ixv_ok rfl rfl rfl
  unfold run Lib.is_below
  simp [MF.start, a0, a1, b0, b1, mul_ok hp.num hq.den', mul_ok hq.num hp.den', -ev_ixv, Rat.lt_iff]
theorem lesser_ok {T : Tab} (F : HasFrac T) (k : Nat) {p q : Rat} (hp : Sm p) (hq : Sm q) : call T (k + 2) (Str.ofString "lesser") [] [fr p, fr q] = .ok (.v (fr (if q < p then q else p)), []) := by
  rw [call_of F.lesser]
  have l := is_below_ok F k hq hp
  generalize call T (k + 1) = C at l
  unfold run Lib.lesser
  by_cases h : q < p <;> simp [MF.start, l, h]
theorem greater_ok {T : Tab} (F : HasFrac T) (k : Nat) {p q : Rat} (hp : Sm p) (hq : Sm q) : call T (k + 2) (Str.ofString "greater") [] [fr p, fr q] = .ok (.v (fr (if p < q then q else p)), []) := by
  rw [call_of F.greater]
  have l := is_below_ok F k hp hq
  generalize call T (k + 1) = C at l
  unfold run Lib.greater
  by_cases h : p < q <;> simp [MF.start, l, h]
/-- a sum, from the left -/
def sumQ (a : Rat) : List Rat → Rat
  | [] => a
  | q :: r => sumQ (a + q) r
/-- every sum on the way is small -/
def SmAll (a : Rat) : List Rat → Prop
  | [] => Sm a
  | q :: r => Sm a ∧ Sm q ∧ SmAll (a + q) r
theorem total_ok {T : Tab} (F : HasFrac T) (k : Nat) {qs : List Rat} (hs : SmAll 0 qs) : call T (k + 3) (Str.ofString "total") [] [.lst (qs.map fr)] = .ok (.v (fr (sumQ 0 qs)), []) := by
  rw [call_of F.total]
  have l := fun (p q : Rat) hp hq => plus_ok F k (p := p) (q := q) hp hq
  generalize call T (k + 2) = C at l
  have loop : ∀ (qs : List Rat) (a : Rat) (s0 s2 : Sl), SmAll a qs → ∃ s2', forL (turn C (.nm 2) (.cons (.asg 1 false (.call (Str.ofString "plus") (.cons (.var 1) (.cons (.var 2) .nil)))) .nil)) (qs.map fr) [s0, .fz (fr a), s2] = .ok (.nx, [s0, .fz (fr (sumQ a qs)), s2']) := by
    intro qs
    induction qs with
    | nil => intro a s0 s2 _; exact ⟨s2, rfl⟩
    | cons q r ih =>
      intro a s0 s2 h
      obtain ⟨h1, h2, h3⟩ := h
      obtain ⟨s2', e⟩ := ih (a + q) s0 (.fz (fr q)) h3
      refine ⟨s2', ?_⟩
      simp [l a q h1 h2]
      exact e
  obtain ⟨s2', e⟩ := loop qs 0 (.fz (.lst (qs.map fr))) .un hs
  unfold run Lib.total
  have z : fr 0 = .tup [.int 0, .int 1] := rfl
  rw [z] at e
  simp [MF.start, e]
end MP

end
section
set_option linter.all false
set_option maxRecDepth 100000
set_option maxHeartbeats 1000000
set_option exponentiation.threshold 10000
/-! in_order: the ascending list of some fractions. -/
namespace MP
open PySem (Str)
structure HasOrd (T : Tab) : Prop extends HasFrac T where
  multiple_of : T (Str.ofString "multiple_of") = some Lib.multiple_of
  in_order : T (Str.ofString "in_order") = some Lib.in_order
def lcmQ (m : Nat) : List Rat → Nat
  | [] => m
  | q :: r => lcmQ (m * (q.den / Nat.gcd q.den m)) r
theorem lcm_step (d m : Nat) : m * (d / Nat.gcd d m) = Nat.lcm d m := by
  unfold Nat.lcm
  rw [Nat.mul_comm d m, Nat.mul_div_assoc _ (Nat.gcd_dvd_left d m)]
theorem lcmQ_dvd : ∀ (qs : List Rat) (m N : Nat), m ∣ N → (∀ q ∈ qs, q.den ∣ N) → lcmQ m qs ∣ N
  | [], m, N, h, _ => h
  | q :: r, m, N, h, hq => by
    unfold lcmQ
    rw [lcm_step]
    exact lcmQ_dvd r _ N (Nat.lcm_dvd (hq q (by simp)) h) fun x hx => hq x (by simp [hx])
theorem dvd_lcmQ : ∀ (qs : List Rat) (m : Nat), m ∣ lcmQ m qs ∧ ∀ q ∈ qs, q.den ∣ lcmQ m qs
  | [], m => ⟨Nat.dvd_refl m, by simp⟩
  | q :: r, m => by
    unfold lcmQ
    rw [lcm_step]
    obtain ⟨a, b⟩ := dvd_lcmQ r (Nat.lcm q.den m)
    refine ⟨Nat.dvd_trans (Nat.dvd_lcm_right _ _) a, fun x hx => ?_⟩
    rcases List.mem_cons.mp hx with rfl | hx
    · exact Nat.dvd_trans (Nat.dvd_lcm_left _ _) a
    · exact b x hx
theorem Big_lt : Big < 2 ^ 9000 := Nat.pow_lt_pow_right (by decide) (by decide)
theorem multiple_ok {T : Tab} (F : HasOrd T) (k : Nat) {qs : List Rat} {N : Nat} (hN : 0 < N) (hB : N < Big) (hq : ∀ q ∈ qs, q.den ∣ N) : call T (k + 2) (Str.ofString "multiple_of") [] [.lst (qs.map fr)] = .ok (.v (.int (lcmQ 1 qs : Nat)), []) := by
  rw [call_of F.multiple_of]
  have l := fun (t : Nat) (b : Nat) hb hs => lowest_ok F.lowest k t b hb hs
  generalize call T (k + 1) = C at l
  have loop : ∀ (qs : List Rat) (m : Nat) (s0 s2 s3 : Sl), 0 < m → m ∣ N → (∀ q ∈ qs, q.den ∣ N) → ∃ s2' s3', forL (turn C (.tp2 (.nm 2) (.nm 3)) (.cons (.asg 1 false (.bin .mul (.var 1) (.ix (.call (Str.ofString "lowest") (.cons (.var 3) (.cons (.var 1) .nil))) (.con (.int 0))))) .nil)) (qs.map fr) [s0, .fz (.int m), s2, s3] = .ok (.nx, [s0, .fz (.int (lcmQ m qs : Nat)), s2', s3']) := by
    intro qs
    induction qs with
    | nil => intro m s0 s2 s3 _ _ _; exact ⟨s2, s3, rfl⟩
    | cons q r ih =>
      intro m s0 s2 s3 h0 h1 h2
      have hmN : m ≤ N := Nat.le_of_dvd hN h1
      have hd := h2 q (by simp)
      have hstep : m * (q.den / Nat.gcd q.den m) ∣ N := by rw [lcm_step]; exact Nat.lcm_dvd hd h1
      have hpos : 0 < m * (q.den / Nat.gcd q.den m) := Nat.mul_pos h0 (Nat.div_pos (Nat.le_of_dvd q.den_pos (Nat.gcd_dvd_left _ _)) (Nat.gcd_pos_of_pos_left _ q.den_pos))
      obtain ⟨s2', s3', e⟩ := ih (m * (q.den / Nat.gcd q.den m)) s0 (.fz (.int q.num)) (.fz (.int q.den)) hpos hstep fun x hx => h2 x (by simp [hx])
      refine ⟨s2', s3', ?_⟩
      have l1 := l q.den m h0 (Nat.lt_trans (Nat.lt_of_le_of_lt hmN hB) Big_lt)
      rw [Int.natAbs_natCast] at l1
      have hdB : q.den / Nat.gcd q.den m < Big := Nat.lt_of_le_of_lt (Nat.le_trans (Nat.div_le_self _ _) (Nat.le_of_dvd hN hd)) hB
      have mm := mul_ok (i := (m : Int)) (j := ((q.den / Nat.gcd q.den m : Nat) : Int)) (by simpa using Nat.lt_of_le_of_lt hmN hB) (by rw [Int.natAbs_natCast]; exact hdB)
      have e5 : ((q.den : Int) / (Nat.gcd q.den m : Nat)) = ((q.den / Nat.gcd q.den m : Nat) : Int) := by omega
      rw [e5] at l1
      have z : fr q = .tup [.int q.num, .int q.den] := rfl
      rw [List.map_cons, forL_cons, z]
      have e6 : lcmQ m (q :: r) = lcmQ (m * (q.den / Nat.gcd q.den m)) r := rfl
      rw [e6]
      generalize q.den / Nat.gcd q.den m = dd at l1 mm e ⊢
      rw [Int.natCast_mul] at e
      simp [l1, mm]
      exact e
  obtain ⟨s2', s3', e⟩ := loop qs 1 (.fz (.lst (qs.map fr))) .un .un (by decide) (Nat.one_dvd N) hq
  unfold run Lib.multiple_of
  simp [MF.start] at e ⊢
  rw [e]
  simp
/-- the ascending list, over one number below -/
def ordQ (qs : List Rat) : List Rat := (sortI (qs.map fun q => q.num * (lcmQ 1 qs / q.den : Nat))).map fun t => mkRat t (lcmQ 1 qs)
theorem loopC_map {α : Type} {t : D → En → Out (Option D × En)} {f : α → D} {g : α → D} {I : En → Prop} : ∀ (xs : List α) (env : En) (acc : List D), I env → (∀ x ∈ xs, ∀ env, I env → ∃ env', t (f x) env = .ok (some (g x), env') ∧ I env') →
    ∃ env', loopC t (xs.map f) env acc = .ok (acc ++ xs.map g, env') ∧ I env'
  | [], env, acc, h, _ => ⟨env, by simp, h⟩
  | x :: xs, env, acc, h, ht => by
    obtain ⟨e1, h1, h2⟩ := ht x (by simp) env h
    obtain ⟨e2, h3, h4⟩ := loopC_map xs e1 (acc ++ [g x]) h2 fun y hy => ht y (by simp [hy])
    refine ⟨e2, ?_, h4⟩
    rw [List.map_cons, loopC_cons, h1]
    simp only [bind_ok']
    rw [h3]
    simp
theorem length_insI (x : Int) : ∀ l : List Int, (insI x l).length ≤ l.length + 1
  | [] => by simp [insI]
  | y :: r => by
    unfold insI
    split
    · simp
    · split
      · simp
      · have := length_insI x r; simp; omega
theorem length_sortI : ∀ l : List Int, (sortI l).length ≤ l.length
  | [] => by simp [sortI]
  | x :: r => by
    have := length_sortI r
    have := length_insI x (sortI r)
    simp [sortI]; omega
theorem intsD_map : ∀ l : List Int, intsD (l.map D.int) = some l
  | [] => rfl
  | x :: r => by simp [intsD, intsD_map r]
theorem in_order_ok {T : Tab} (F : HasOrd T) (k : Nat) {qs : List Rat} {N : Nat} (hN : 0 < N) (hB : N < Big) (hq : ∀ q ∈ qs, q.den ∣ N) (hn : ∀ q ∈ qs, q.num.natAbs < Big) (hl : qs.length < 4000) :
    call T (k + 3) (Str.ofString "in_order") [] [.lst (qs.map fr)] = .ok (.o ((ordQ qs).map fr), []) := by
  rw [call_of F.in_order]
  have l := multiple_ok F k hN hB hq
  have l2 := fun (t : Int) (b : Nat) hb hs => lowest_fr F.lowest (k + 1) t b hb hs
  generalize call T (k + 2) = C at l l2
  have hM : lcmQ 1 qs ∣ N := lcmQ_dvd qs 1 N (Nat.one_dvd N) hq
  have hdM := (dvd_lcmQ qs 1).2
  have hM0 : 0 < lcmQ 1 qs := Nat.pos_of_dvd_of_pos hM hN
  have hMB : lcmQ 1 qs < Big := Nat.lt_of_le_of_lt (Nat.le_of_dvd hN hM) hB
  unfold ordQ
  generalize lcmQ 1 qs = M at l hM hdM hM0 hMB
  -- the numbers above
  obtain ⟨e1, h1, i1⟩ := loopC_map (t := turnC C (.nm 4) .none (.bi .int (.cons (.bin .mul (.ixv 4 (.con (.int 0))) (.bin .fdiv (.var 1) (.ixv 4 (.con (.int 1))))) .nil)) [4]) (f := fr) (g := fun q => .int (q.num * (M / q.den : Nat)))
    (I := fun env => ∃ s, env = [.fz (.lst (qs.map fr)), .fz (.int M), .un, .un, s]) qs [.fz (.lst (qs.map fr)), .fz (.int M), .un, .un, .un] [] ⟨_, rfl⟩ (by
      rintro q hqm env ⟨s, rfl⟩
      refine ⟨[.fz (.lst (qs.map fr)), .fz (.int M), .un, .un, .fz (fr q)], ?_, ⟨_, rfl⟩⟩
      have a0 : ev C (.ixv 4 (.con (.int 0))) [.fz (.lst (qs.map fr)), .fz (.int M), .un, .un, .fz (fr q)] = .ok (.v (.int q.num), [.fz (.lst (qs.map fr)), .fz (.int M), .un, .un, .fz (fr q)]) := ixv_ok rfl rfl rfl
      have a1 : ev C (.ixv 4 (.con (.int 1))) [.fz (.lst (qs.map fr)), .fz (.int M), .un, .un, .fz (fr q)] = .ok (.v (.int q.den), [.fz (.lst (qs.map fr)), .fz (.int M), .un, .un, .fz (fr q)]) := ixv_ok rfl rfl rfl
      have hdq : q.den < 2 ^ 9000 := Nat.lt_trans (Nat.lt_of_le_of_lt (Nat.le_of_dvd hM0 (hdM q hqm)) hMB) Big_lt
      have d1 : bin2 .fdiv (.int M) (.int q.den) = .ok (.v (.int ((M / q.den : Nat) : Int))) := by
        show (if divOk _ = true then _ else _) = _
        rw [divOk_of q.den_pos hdq, if_pos rfl, Int.natCast_ediv]
      have m1 := mul_ok (i := q.num) (j := ((M / q.den : Nat) : Int)) (hn q hqm) (by rw [Int.natAbs_natCast]; exact Nat.lt_of_le_of_lt (Nat.div_le_self _ _) hMB)
      generalize M / q.den = dd at d1 m1 ⊢
      simp [a0, a1, d1, m1, bi1, bint, -ev_ixv])
  obtain ⟨s1, rfl⟩ := i1
  have hmap : (qs.map fun q => D.int (q.num * ((M / q.den : Nat) : Int))) = (qs.map fun q => q.num * ((M / q.den : Nat) : Int)).map D.int := by rw [List.map_map]; rfl
  rw [hmap] at h1
  have hlen : (qs.map fun q => q.num * ((M / q.den : Nat) : Int)).length < 4000 := by rw [List.length_map]; exact hl
  generalize (qs.map fun q => q.num * ((M / q.den : Nat) : Int)) = ts at h1 hlen ⊢
  have hss : bi1 .sset [.lst (ts.map D.int)] = .ok (.o ((sortI ts).map D.int)) := by
    unfold bi1
    dsimp only
    unfold bsset
    dsimp only
    rw [intsD_map]
    dsimp only
    rw [if_pos hlen]
  generalize sortI ts = us at hss ⊢
  obtain ⟨e2, h2, s2, rfl⟩ := loopC_map (t := turnC C (.nm 3) .none (.call (Str.ofString "lowest") (.cons (.var 3) (.cons (.var 1) .nil))) [3]) (f := D.int) (g := fun t => fr (mkRat t M))
    (I := fun env => ∃ s, env = [.fz (.lst (qs.map fr)), .fz (.int M), .fz (.lst (us.map D.int)), s, .un]) us [.fz (.lst (qs.map fr)), .fz (.int M), .fz (.lst (us.map D.int)), .un, .un] [] ⟨_, rfl⟩ (by
      rintro t htm env ⟨s, rfl⟩
      refine ⟨[.fz (.lst (qs.map fr)), .fz (.int M), .fz (.lst (us.map D.int)), .fz (.int t), .un], ?_, ⟨_, rfl⟩⟩
      have l3 := l2 t M hM0 (Nat.lt_trans hMB Big_lt)
      simp [l3])
  unfold run Lib.in_order
  have n4 : noOwn [Sl.fz (.lst (qs.map fr)), .fz (.int M), .un, .un, .un] [4] = true := rfl
  have n3 : noOwn [Sl.fz (.lst (qs.map fr)), .fz (.int M), .fz (.lst (us.map D.int)), .un, .un] [3] = true := rfl
  have hm2 : (us.map fun t => fr (mkRat t M)) = (us.map fun t => mkRat t M).map fr := by rw [List.map_map]; rfl
  simp [MF.start] at h1 h2 ⊢
  simp [l, h1, h2, n4, n3, hss]
end MP

end
section
set_option linter.all false
set_option maxRecDepth 100000
set_option maxHeartbeats 1000000
/-! The ascending list; rows as distributions. -/
namespace MP
open PySem (Str)
theorem mem_insI' {x k : Int} : ∀ {l : List Int}, k ∈ insI x l ↔ k = x ∨ k ∈ l
  | [] => by simp [insI]
  | y :: r => by
    unfold insI
    split
    · simp
    · split
      · rename_i h; subst h; simp
      · simp [mem_insI' (l := r)]; constructor <;> (intro h; rcases h with h | h | h <;> simp [h])
theorem mem_sortI' {k : Int} : ∀ {l : List Int}, k ∈ sortI l ↔ k ∈ l
  | [] => by simp [sortI]
  | x :: r => by rw [sortI, mem_insI', mem_sortI' (l := r)]; simp
theorem insI_sorted' {x : Int} : ∀ {l : List Int}, l.Pairwise (· < ·) → (insI x l).Pairwise (· < ·)
  | [], _ => by simp [insI]
  | y :: r, h => by
    obtain ⟨h1, h2⟩ := List.pairwise_cons.mp h
    unfold insI
    split
    · rename_i hx
      exact List.pairwise_cons.mpr ⟨fun z hz => by
        rcases List.mem_cons.mp hz with rfl | hz
        · exact hx
        · exact Int.lt_trans hx (h1 z hz), h⟩
    · split
      · exact h
      · refine List.pairwise_cons.mpr ⟨fun z hz => ?_, insI_sorted' h2⟩
        rcases mem_insI'.mp hz with rfl | hz
        · omega
        · exact h1 z hz
theorem sortI_sorted' : ∀ (l : List Int), (sortI l).Pairwise (· < ·)
  | [] => .nil
  | x :: r => insI_sorted' (sortI_sorted' r)
theorem mkRat_mul (t : Int) {M : Nat} (h : 0 < M) : mkRat t M * (M : Rat) = t := by
  rw [Rat.mkRat_eq_div]
  exact Rat.div_mul_cancel (by have : (M : Rat) ≠ 0 := by exact_mod_cast (by omega : M ≠ 0)
                               exact this)
theorem mkRat_lt {t u : Int} {M : Nat} (h : 0 < M) (hl : t < u) : mkRat t M < mkRat u M := by
  rcases Decidable.em (mkRat t M < mkRat u M) with a | a
  · exact a
  · exfalso
    have b := Rat.mul_le_mul_of_nonneg_right (Rat.not_lt.mp a) (c := (M : Rat)) (by exact_mod_cast Nat.zero_le M)
    rw [mkRat_mul t h, mkRat_mul u h, Rat.intCast_le_intCast] at b
    omega
theorem mkRat_back {q : Rat} {M : Nat} (h : 0 < M) (hd : q.den ∣ M) : mkRat (q.num * ((M / q.den : Nat) : Int)) M = q := by
  obtain ⟨c, rfl⟩ := hd
  rw [Nat.mul_div_cancel_left _ q.den_pos]
  have hc : c ≠ 0 := by rintro rfl; simp at h
  rw [← Rat.mkRat_self q]
  conv => rhs; rw [← Rat.mkRat_self q]
  rw [Rat.mkRat_eq_iff (by rw [Rat.mkRat_self]; omega) (by have := q.den_pos; rw [Rat.mkRat_self]; omega)]
  rw [Rat.mkRat_self]
  push_cast
  rw [Int.mul_assoc, Int.mul_comm (c : Int)]
/-- the strictly ascending list with these members -/
structure IsOrd (l qs : List Rat) : Prop where
  asc : l.Pairwise (· < ·)
  mem : ∀ q, q ∈ l ↔ q ∈ qs
theorem Rat_asymm {a b : Rat} (h : a < b) (g : b < a) : False := by grind
theorem IsOrd.uniq : ∀ {l m : List Rat}, l.Pairwise (· < ·) → m.Pairwise (· < ·) → (∀ k, k ∈ l ↔ k ∈ m) → l = m
  | [], [], _, _, _ => rfl
  | [], y :: r, _, _, h => absurd ((h y).mpr (by simp)) (by simp)
  | x :: l, [], _, _, h => absurd ((h x).mp (by simp)) (by simp)
  | x :: l, y :: m, h1, h2, h => by
    obtain ⟨a1, a2⟩ := List.pairwise_cons.mp h1
    obtain ⟨b1, b2⟩ := List.pairwise_cons.mp h2
    have e : x = y := by
      rcases List.mem_cons.mp ((h x).mp (by simp)) with e | e
      · exact e
      · rcases List.mem_cons.mp ((h y).mpr (by simp)) with e' | e'
        · exact e'.symm
        · exact (Rat_asymm (b1 x e) (a1 y e')).elim
    subst e
    rw [IsOrd.uniq a2 b2 fun k => ?_]
    constructor
    · intro hk
      rcases List.mem_cons.mp ((h k).mp (by simp [hk])) with e | e
      · have := a1 k hk; rw [e] at this; exact (Rat.lt_irrefl this).elim
      · exact e
    · intro hk
      rcases List.mem_cons.mp ((h k).mpr (by simp [hk])) with e | e
      · have := b1 k hk; rw [e] at this; exact (Rat.lt_irrefl this).elim
      · exact e
theorem ordQ_is {qs : List Rat} : IsOrd (ordQ qs) qs := by
  have hd := (dvd_lcmQ qs 1).2
  have hM : 0 < lcmQ 1 qs := by
    have key : ∀ (qs : List Rat) (m : Nat), 0 < m → 0 < lcmQ m qs := by
      intro qs
      induction qs with
      | nil => intro m h; exact h
      | cons q r ih =>
        intro m h
        exact ih _ (Nat.mul_pos h (Nat.div_pos (Nat.le_of_dvd q.den_pos (Nat.gcd_dvd_left _ _)) (Nat.gcd_pos_of_pos_left _ q.den_pos)))
    exact key qs 1 (by decide)
  unfold ordQ
  generalize lcmQ 1 qs = M at hd hM
  constructor
  · exact List.pairwise_map.mpr ((sortI_sorted' _).imp fun h => mkRat_lt hM h)
  · intro q
    rw [List.mem_map]
    constructor
    · rintro ⟨t, ht, rfl⟩
      rw [mem_sortI', List.mem_map] at ht
      obtain ⟨x, hx, rfl⟩ := ht
      rw [mkRat_back hM (hd x hx)]; exact hx
    · intro hq
      exact ⟨_, by rw [mem_sortI']; exact List.mem_map.mpr ⟨q, hq, rfl⟩, mkRat_back hM (hd q hq)⟩
end MP

end
section
set_option linter.all false
set_option maxRecDepth 100000
set_option maxHeartbeats 1000000
/-! joined: the rows of some pairs. -/
namespace MP
open PySem (Str)
structure HasJoin (T : Tab) : Prop extends HasOrd T where
  joined : T (Str.ofString "joined") = some Lib.joined
def rowD (r : Rat × Rat) : D := .tup [fr r.1, fr r.2]
abbrev key (a : Rat) : List Int := [a.num, a.den]
theorem key_inj {a b : Rat} (h : key a = key b) : a = b := by
  simp only [key, List.cons.injEq, and_true] at h
  exact Rat.ext h.1 (by exact_mod_cast h.2)
def kvsQ (acc : List (Rat × Rat)) : List (List Int × D) := acc.map fun r => (key r.1, fr r.2)
def lookQ (acc : List (Rat × Rat)) (a : Rat) : Option Rat := (acc.find? fun r => decide (r.1 = a)).map (·.2)
def addQ (acc : List (Rat × Rat)) (a p : Rat) : List (Rat × Rat) := if (lookQ acc a).isSome then acc.map (fun r => if r.1 = a then (r.1, p) else r) else acc ++ [(a, p)]
theorem key_dec (a b : Rat) : decide (key a = key b) = decide (a = b) := by
  by_cases h : a = b
  · subst h; simp
  · rw [decide_eq_false h, decide_eq_false fun e => h (key_inj e)]
theorem lookQ_nil (a : Rat) : lookQ [] a = none := rfl
theorem lookQ_cons (r : Rat × Rat) (acc : List (Rat × Rat)) (a : Rat) : lookQ (r :: acc) a = if r.1 = a then some r.2 else lookQ acc a := by
  unfold lookQ
  rw [List.find?_cons]
  by_cases h : r.1 = a
  · rw [decide_eq_true h, if_pos h]; rfl
  · rw [decide_eq_false h, if_neg h]
theorem dlook_kvs (a : Rat) : ∀ acc : List (Rat × Rat), dlook (kvsQ acc) (key a) = (lookQ acc a).map fr
  | [] => rfl
  | r :: acc => by
    have ih := dlook_kvs a acc
    rw [lookQ_cons]
    unfold dlook kvsQ at ih ⊢
    rw [List.map_cons, List.find?_cons]
    dsimp only
    rw [key_dec]
    by_cases h : r.1 = a
    · rw [decide_eq_true h, if_pos h]; rfl
    · rw [decide_eq_false h, if_neg h]; exact ih
theorem any_kvs (a : Rat) : ∀ acc : List (Rat × Rat), ((kvsQ acc).any fun p => decide (p.1 = key a)) = (lookQ acc a).isSome
  | [] => rfl
  | r :: acc => by
    have ih := any_kvs a acc
    rw [lookQ_cons]
    unfold kvsQ at ih ⊢
    rw [List.map_cons, List.any_cons, ih, key_dec]
    by_cases h : r.1 = a
    · rw [decide_eq_true h, if_pos h]; rfl
    · rw [decide_eq_false h, if_neg h]; rfl
theorem dput_kvs (a p : Rat) (acc : List (Rat × Rat)) : dput (key a) (fr p) (kvsQ acc) = kvsQ (addQ acc a p) := by
  unfold dput addQ
  rw [any_kvs]
  split
  · unfold kvsQ
    rw [List.map_map, List.map_map]
    refine List.map_congr_left fun r _ => ?_
    dsimp only [Function.comp]
    by_cases h : r.1 = a
    · rw [if_pos h, if_pos (by rw [h])]
    · rw [if_neg h, if_neg fun e => h (key_inj e)]
  · unfold kvsQ; rw [List.map_append]; rfl
theorem lookQ_add (acc : List (Rat × Rat)) (a p b : Rat) : lookQ (addQ acc a p) b = if a = b then some p else lookQ acc b := by
  have app : ∀ (l : List (Rat × Rat)) r, lookQ (l ++ [r]) b = (lookQ l b).or (if r.1 = b then some r.2 else none) := by
    intro l r
    induction l with
    | nil => rw [List.nil_append, lookQ_cons, lookQ_nil]; rfl
    | cons x l ih =>
      rw [List.cons_append, lookQ_cons, lookQ_cons, ih]
      split <;> rfl
  unfold addQ
  split
  · rename_i hs
    have : ∀ l : List (Rat × Rat), (a = b → (lookQ l b).isSome = true) → lookQ (l.map fun r => if r.1 = a then (r.1, p) else r) b = if a = b then some p else lookQ l b := by
      intro l
      induction l with
      | nil =>
        intro h
        by_cases e : a = b
        · have := h e; rw [lookQ_nil] at this; cases this
        · rw [if_neg e]; rfl
      | cons x l ih =>
        intro h
        rw [List.map_cons, lookQ_cons, lookQ_cons]
        by_cases e : a = b
        · subst e
          rw [if_pos rfl]
          by_cases hx : x.1 = a
          · rw [if_pos hx, if_pos hx]
          · rw [if_neg hx, if_neg hx]
            have := ih fun _ => by have := h rfl; rw [lookQ_cons, if_neg hx] at this; exact this
            rw [this, if_pos rfl]
        · rw [if_neg e]
          have ih := ih fun z => absurd z e
          rw [if_neg e] at ih
          by_cases hx : x.1 = a
          · rw [if_pos hx, ih]
            have : ¬ x.1 = b := fun z => e (hx.symm.trans z)
            rw [if_neg this, if_neg this]
          · rw [if_neg hx, ih]
    exact this acc fun e => by rw [← e]; exact hs
  · rename_i hs
    rw [app]
    by_cases e : a = b
    · subst e
      rw [if_pos rfl]
      have : lookQ acc a = none := by
        cases q : lookQ acc a with
        | none => rfl
        | some _ => rw [q] at hs; exact absurd rfl hs
      rw [this]; simp
    · rw [if_neg e]; simp [e]
/-- the dict behind some pairs -/
def joinA (acc : List (Rat × Rat)) : List (Rat × Rat) → List (Rat × Rat)
  | [] => acc
  | r :: rs => joinA (addQ acc r.1 ((lookQ acc r.1).getD 0 + r.2)) rs
/-- what all pairs of an amount are together, from the left -/
def massA (s : Rat) (a : Rat) : List (Rat × Rat) → Rat
  | [] => s
  | r :: rs => if r.1 = a then massA (s + r.2) a rs else massA s a rs
theorem joinA_look (a : Rat) : ∀ (rs acc : List (Rat × Rat)), lookQ (joinA acc rs) a = if (lookQ acc a).isSome ∨ a ∈ rs.map (·.1) then some (massA ((lookQ acc a).getD 0) a rs) else none
  | [], acc => by
    unfold joinA massA
    cases lookQ acc a <;> simp
  | r :: rs, acc => by
    unfold joinA massA
    rw [joinA_look a rs]
    rw [lookQ_add]
    by_cases h : r.1 = a
    · subst h
      simp
    · rw [if_neg h]
      have : ¬ a = r.1 := fun e => h e.symm
      simp only [List.map_cons, List.mem_cons, this, false_or, if_neg h]
theorem mem_addQ (acc : List (Rat × Rat)) (a p b : Rat) : b ∈ (addQ acc a p).map (·.1) ↔ b = a ∨ b ∈ acc.map (·.1) := by
  unfold addQ
  split
  · rename_i hs
    have e : (acc.map fun r => if r.1 = a then (r.1, p) else r).map (·.1) = acc.map (·.1) := by
      rw [List.map_map]
      refine List.map_congr_left fun r _ => ?_
      dsimp only [Function.comp]
      split <;> rfl
    rw [e]
    constructor
    · exact .inr
    · rintro (rfl | h)
      · unfold lookQ at hs
        cases q : acc.find? fun r => decide (r.1 = b) with
        | none => rw [q] at hs; simp at hs
        | some r =>
          have h1 := List.find?_some q
          have h2 := List.mem_of_find?_eq_some q
          exact List.mem_map.mpr ⟨r, h2, of_decide_eq_true h1⟩
      · exact h
  · rw [List.map_append, List.mem_append]
    simp [or_comm]
theorem mem_joinA (b : Rat) : ∀ (rs acc : List (Rat × Rat)), b ∈ (joinA acc rs).map (·.1) ↔ b ∈ rs.map (·.1) ∨ b ∈ acc.map (·.1)
  | [], acc => by simp [joinA]
  | r :: rs, acc => by
    unfold joinA
    rw [mem_joinA b rs, mem_addQ, List.map_cons, List.mem_cons]
    constructor
    · rintro (h | h | h)
      · exact .inl (.inr h)
      · exact .inl (.inl h)
      · exact .inr h
    · rintro ((h | h) | h)
      · exact .inr (.inl h)
      · exact .inl h
      · exact .inr (.inr h)
/-- every sum on the way is small -/
def JSm (acc : List (Rat × Rat)) : List (Rat × Rat) → Prop
  | [] => True
  | r :: rs => Sm ((lookQ acc r.1).getD 0) ∧ Sm r.2 ∧ JSm (addQ acc r.1 ((lookQ acc r.1).getD 0 + r.2)) rs
/-- the rows of some pairs -/
def joinQ (rs : List (Rat × Rat)) : List (Rat × Rat) := (ordQ ((joinA [] rs).map (·.1))).map fun a => (a, massA 0 a rs)
theorem len_addQ (acc : List (Rat × Rat)) (a p : Rat) : (addQ acc a p).length ≤ acc.length + 1 := by
  unfold addQ; split
  · rw [List.length_map]; omega
  · rw [List.length_append]; simp
theorem len_joinA : ∀ (rs acc : List (Rat × Rat)), (joinA acc rs).length ≤ acc.length + rs.length
  | [], acc => by simp [joinA]
  | r :: rs, acc => by
    have h1 := len_joinA rs (addQ acc r.1 ((lookQ acc r.1).getD 0 + r.2))
    have h2 := len_addQ acc r.1 ((lookQ acc r.1).getD 0 + r.2)
    unfold joinA
    rw [List.length_cons]; omega
theorem keyOf_fr (a : Rat) : keyOf (fr a) = some (key a) := rfl
theorem isOd_1 (s : Sl) (k : List (List Int × D)) (r : En) : isOd (s :: .od k :: r) 1 = true := rfl
theorem joined_ok {T : Tab} (F : HasJoin T) (k : Nat) {rs : List (Rat × Rat)} {N : Nat} (hN : 0 < N) (hB : N < Big) (hq : ∀ r ∈ rs, r.1.den ∣ N ∧ r.1.num.natAbs < Big) (hl : rs.length < 4000) (hs : JSm [] rs) :
    call T (k + 4) (Str.ofString "joined") [] [.lst (rs.map rowD)] = .ok (.o ((joinQ rs).map rowD), []) := by
  rw [call_of F.joined]
  have l := fun (p q : Rat) hp hq => plus_ok F.toHasFrac (k + 1) (p := p) (q := q) hp hq
  have lo := fun (qs : List Rat) a b c => in_order_ok F.toHasOrd k (qs := qs) hN hB a b c
  generalize call T (k + 3) = C at l lo
  have loop : ∀ (rs acc : List (Rat × Rat)) (s0 s2 s3 : Sl), (s2 = .un ∨ ∃ d, s2 = .fz d) → acc.length + rs.length < 4000 → JSm acc rs → ∃ s2' s3', (s2' = .un ∨ ∃ d, s2' = .fz d) ∧ forL (turn C (.tp2 (.nm 2) (.nm 3)) (.cons (.dset 1 (.var 2) (.call (Str.ofString "plus") (.cons (.dget 1 (.var 2) (.con (.tup [(.int 0), (.int 1)]))) (.cons (.var 3) .nil)))) .nil)) (rs.map rowD) [s0, .od (kvsQ acc), s2, s3] = .ok (.nx, [s0, .od (kvsQ (joinA acc rs)), s2', s3']) := by
    intro rs
    induction rs with
    | nil => intro acc s0 s2 s3 hu _ _; exact ⟨s2, s3, hu, rfl⟩
    | cons r rs ih =>
      intro acc s0 s2 s3 hu hlen h
      obtain ⟨h1, h2, h3⟩ := h
      rw [List.length_cons] at hlen
      have hla := len_addQ acc r.1 ((lookQ acc r.1).getD 0 + r.2)
      obtain ⟨s2', s3', hu', e⟩ := ih _ s0 (.fz (fr r.1)) (.fz (fr r.2)) (.inr ⟨_, rfl⟩) (by omega) h3
      refine ⟨s2', s3', hu', ?_⟩
      have z : rowD r = .tup [fr r.1, fr r.2] := rfl
      have g : (dlook (kvsQ acc) (key r.1)).getD (.tup [.int 0, .int 1]) = fr ((lookQ acc r.1).getD 0) := by
        rw [dlook_kvs]
        cases lookQ acc r.1 <;> rfl
      have hkl : (kvsQ acc).length < line := by unfold kvsQ line; rw [List.length_map]; omega
      have l1 := l _ _ h1 h2
      rw [List.map_cons, forL_cons, z]
      simp [isOd_1, keyOf_fr, g, l1, hkl, dput_kvs]
      exact e
  obtain ⟨s2', s3', hu, e⟩ := loop rs [] (.fz (.lst (rs.map rowD))) .un .un (.inl rfl) (by simpa using hl) hs
  have hkeys : ((kvsQ (joinA [] rs)).map fun p => D.tup (p.1.map .int)) = ((joinA [] rs).map (·.1)).map fr := by
    unfold kvsQ; rw [List.map_map, List.map_map]; rfl
  have hmem : ∀ a, a ∈ (joinA [] rs).map (·.1) → a ∈ rs.map (·.1) := fun a ha => by
    rcases (mem_joinA a rs []).mp ha with h | h
    · exact h
    · simp at h
  have hin : ∀ a, a ∈ (joinA [] rs).map (·.1) → ∃ r ∈ rs, r.1 = a := fun a ha => List.mem_map.mp (hmem a ha)
  have lo1 := lo ((joinA [] rs).map (·.1)) (fun a ha => by obtain ⟨r, hr, rfl⟩ := hin a ha; exact (hq r hr).1) (fun a ha => by obtain ⟨r, hr, rfl⟩ := hin a ha; exact (hq r hr).2)
    (by rw [List.length_map]; have := len_joinA rs []; simp at this; omega)
  have hord := @ordQ_is ((joinA [] rs).map (·.1))
  unfold joinQ
  generalize ordQ ((joinA [] rs).map (·.1)) = os at lo1 hord ⊢
  obtain ⟨e2, h2, s2, rfl⟩ := loopC_map (t := turnC C (.nm 2) .none (.tup (.cons (.var 2) (.cons (.dix 1 (.var 2)) .nil))) [2]) (f := fr) (g := fun a => rowD (a, massA 0 a rs))
    (I := fun env => ∃ s, env = [.fz (.lst (rs.map rowD)), .od (kvsQ (joinA [] rs)), s, s3']) os [.fz (.lst (rs.map rowD)), .od (kvsQ (joinA [] rs)), s2', s3'] [] ⟨_, rfl⟩ (by
      rintro a ha env ⟨s, rfl⟩
      refine ⟨[.fz (.lst (rs.map rowD)), .od (kvsQ (joinA [] rs)), .fz (fr a), s3'], ?_, ⟨_, rfl⟩⟩
      have g : dlook (kvsQ (joinA [] rs)) (key a) = some (fr (massA 0 a rs)) := by
        rw [dlook_kvs, joinA_look]
        have := hmem a ((hord.mem a).mp ha)
        simp [lookQ_nil, this]
      simp [isOd_1, keyOf_fr, g, rowD])
  have hm2 : (os.map fun a => rowD (a, massA 0 a rs)) = (os.map fun a => (a, massA 0 a rs)).map rowD := by rw [List.map_map]; rfl
  have n2 : noOwn [Sl.fz (.lst (rs.map rowD)), .od (kvsQ (joinA [] rs)), s2', s3'] [2] = true := by
    rcases hu with rfl | ⟨d, rfl⟩ <;> rfl
  have k0 : kvsQ [] = [] := rfl
  rw [k0] at e
  rw [← hkeys] at lo1
  unfold run Lib.joined
  rw [hm2] at h2
  generalize (os.map fun a => (a, massA 0 a rs)) = out at h2 ⊢
  generalize hD : D.lst (rs.map rowD) = dd at e h2 n2 ⊢
  have it : items dd = some (rs.map rowD) := by rw [← hD]; rfl
  simp [MF.start, it, e, lo1, n2]
  simp at h2
  simp [h2]
end MP

end
section
set_option linter.all false
set_option maxRecDepth 100000
/-! The words of contracts, as texts. -/
namespace MP
open PySem (Str)
theorem cmp_str {x y : Str} (hx : strOk x = true) (hy : strOk y = true) : cmp2 .eq (.str x) (.str y) = .ok (x == y) := by
  show (if (sh 60 (.str x) && sh 60 (.str y)) = true then _ else _) = _
  have a : sh 60 (.str x) = true := hx
  have b : sh 60 (.str y) = true := hy
  rw [a, b]
  rfl
theorem cmp_strN {x y : Str} (hx : strOk x = true) (hy : strOk y = true) : cmp2 .ne (.str x) (.str y) = .ok (!(x == y)) := by
  show (if (sh 60 (.str x) && sh 60 (.str y)) = true then _ else _) = _
  have a : sh 60 (.str x) = true := hx
  have b : sh 60 (.str y) = true := hy
  rw [a, b]
  rfl
@[simp] theorem ok_sure : strOk (Str.ofString "sure") = true := by decide +kernel
@[simp] theorem ok_draw : strOk (Str.ofString "draw") = true := by decide +kernel
@[simp] theorem ok_cap : strOk (Str.ofString "cap") = true := by decide +kernel
@[simp] theorem ok_floor : strOk (Str.ofString "floor") = true := by decide +kernel
@[simp] theorem ok_more : strOk (Str.ofString "more") = true := by decide +kernel
@[simp] theorem ok_share : strOk (Str.ofString "share") = true := by decide +kernel
@[simp] theorem ok_insured : strOk (Str.ofString "insured") = true := by decide +kernel
@[simp] theorem be_sure_sure : ((Str.ofString "sure") == (Str.ofString "sure")) = true := by decide +kernel
@[simp] theorem be_sure_draw : ((Str.ofString "sure") == (Str.ofString "draw")) = false := by decide +kernel
@[simp] theorem be_sure_cap : ((Str.ofString "sure") == (Str.ofString "cap")) = false := by decide +kernel
@[simp] theorem be_sure_floor : ((Str.ofString "sure") == (Str.ofString "floor")) = false := by decide +kernel
@[simp] theorem be_sure_more : ((Str.ofString "sure") == (Str.ofString "more")) = false := by decide +kernel
@[simp] theorem be_sure_share : ((Str.ofString "sure") == (Str.ofString "share")) = false := by decide +kernel
@[simp] theorem be_sure_insured : ((Str.ofString "sure") == (Str.ofString "insured")) = false := by decide +kernel
@[simp] theorem be_draw_sure : ((Str.ofString "draw") == (Str.ofString "sure")) = false := by decide +kernel
@[simp] theorem be_draw_draw : ((Str.ofString "draw") == (Str.ofString "draw")) = true := by decide +kernel
@[simp] theorem be_draw_cap : ((Str.ofString "draw") == (Str.ofString "cap")) = false := by decide +kernel
@[simp] theorem be_draw_floor : ((Str.ofString "draw") == (Str.ofString "floor")) = false := by decide +kernel
@[simp] theorem be_draw_more : ((Str.ofString "draw") == (Str.ofString "more")) = false := by decide +kernel
@[simp] theorem be_draw_share : ((Str.ofString "draw") == (Str.ofString "share")) = false := by decide +kernel
@[simp] theorem be_draw_insured : ((Str.ofString "draw") == (Str.ofString "insured")) = false := by decide +kernel
@[simp] theorem be_cap_sure : ((Str.ofString "cap") == (Str.ofString "sure")) = false := by decide +kernel
@[simp] theorem be_cap_draw : ((Str.ofString "cap") == (Str.ofString "draw")) = false := by decide +kernel
@[simp] theorem be_cap_cap : ((Str.ofString "cap") == (Str.ofString "cap")) = true := by decide +kernel
@[simp] theorem be_cap_floor : ((Str.ofString "cap") == (Str.ofString "floor")) = false := by decide +kernel
@[simp] theorem be_cap_more : ((Str.ofString "cap") == (Str.ofString "more")) = false := by decide +kernel
@[simp] theorem be_cap_share : ((Str.ofString "cap") == (Str.ofString "share")) = false := by decide +kernel
@[simp] theorem be_cap_insured : ((Str.ofString "cap") == (Str.ofString "insured")) = false := by decide +kernel
@[simp] theorem be_floor_sure : ((Str.ofString "floor") == (Str.ofString "sure")) = false := by decide +kernel
@[simp] theorem be_floor_draw : ((Str.ofString "floor") == (Str.ofString "draw")) = false := by decide +kernel
@[simp] theorem be_floor_cap : ((Str.ofString "floor") == (Str.ofString "cap")) = false := by decide +kernel
@[simp] theorem be_floor_floor : ((Str.ofString "floor") == (Str.ofString "floor")) = true := by decide +kernel
@[simp] theorem be_floor_more : ((Str.ofString "floor") == (Str.ofString "more")) = false := by decide +kernel
@[simp] theorem be_floor_share : ((Str.ofString "floor") == (Str.ofString "share")) = false := by decide +kernel
@[simp] theorem be_floor_insured : ((Str.ofString "floor") == (Str.ofString "insured")) = false := by decide +kernel
@[simp] theorem be_more_sure : ((Str.ofString "more") == (Str.ofString "sure")) = false := by decide +kernel
@[simp] theorem be_more_draw : ((Str.ofString "more") == (Str.ofString "draw")) = false := by decide +kernel
@[simp] theorem be_more_cap : ((Str.ofString "more") == (Str.ofString "cap")) = false := by decide +kernel
@[simp] theorem be_more_floor : ((Str.ofString "more") == (Str.ofString "floor")) = false := by decide +kernel
@[simp] theorem be_more_more : ((Str.ofString "more") == (Str.ofString "more")) = true := by decide +kernel
@[simp] theorem be_more_share : ((Str.ofString "more") == (Str.ofString "share")) = false := by decide +kernel
@[simp] theorem be_more_insured : ((Str.ofString "more") == (Str.ofString "insured")) = false := by decide +kernel
@[simp] theorem be_share_sure : ((Str.ofString "share") == (Str.ofString "sure")) = false := by decide +kernel
@[simp] theorem be_share_draw : ((Str.ofString "share") == (Str.ofString "draw")) = false := by decide +kernel
@[simp] theorem be_share_cap : ((Str.ofString "share") == (Str.ofString "cap")) = false := by decide +kernel
@[simp] theorem be_share_floor : ((Str.ofString "share") == (Str.ofString "floor")) = false := by decide +kernel
@[simp] theorem be_share_more : ((Str.ofString "share") == (Str.ofString "more")) = false := by decide +kernel
@[simp] theorem be_share_share : ((Str.ofString "share") == (Str.ofString "share")) = true := by decide +kernel
@[simp] theorem be_share_insured : ((Str.ofString "share") == (Str.ofString "insured")) = false := by decide +kernel
@[simp] theorem be_insured_sure : ((Str.ofString "insured") == (Str.ofString "sure")) = false := by decide +kernel
@[simp] theorem be_insured_draw : ((Str.ofString "insured") == (Str.ofString "draw")) = false := by decide +kernel
@[simp] theorem be_insured_cap : ((Str.ofString "insured") == (Str.ofString "cap")) = false := by decide +kernel
@[simp] theorem be_insured_floor : ((Str.ofString "insured") == (Str.ofString "floor")) = false := by decide +kernel
@[simp] theorem be_insured_more : ((Str.ofString "insured") == (Str.ofString "more")) = false := by decide +kernel
@[simp] theorem be_insured_share : ((Str.ofString "insured") == (Str.ofString "share")) = false := by decide +kernel
@[simp] theorem be_insured_insured : ((Str.ofString "insured") == (Str.ofString "insured")) = true := by decide +kernel
end MP

end
section
set_option linter.all false
set_option maxRecDepth 100000
set_option maxHeartbeats 1000000
/-! Contracts; what they make of an amount. -/
namespace MP
open PySem (Str)
mutual
/-- a contract; the numbers are any -/
inductive Ctr where
  | sure (c : Int) | draw (l : CtrL) | cap (a : Int) (c : Ctr) | floor (a : Int) (c : Ctr) | more (a : Int) (c : Ctr)
  | share (n d : Int) (c : Ctr) | insured (n d a : Int) (c : Ctr)
inductive CtrL where
  | nil | cons (w : Int) (c : Ctr) (r : CtrL)
end
abbrev sSure : Str := Str.ofString "sure"
abbrev sDraw : Str := Str.ofString "draw"
abbrev sCap : Str := Str.ofString "cap"
abbrev sFloor : Str := Str.ofString "floor"
abbrev sMore : Str := Str.ofString "more"
abbrev sShare : Str := Str.ofString "share"
abbrev sIns : Str := Str.ofString "insured"
mutual
def Ctr.d : Ctr → D
  | .sure c => .tup [.str sSure, .int c]
  | .draw l => .tup [.str sDraw, .tup l.ds]
  | .cap a c => .tup [.str sCap, .int a, c.d]
  | .floor a c => .tup [.str sFloor, .int a, c.d]
  | .more a c => .tup [.str sMore, .int a, c.d]
  | .share n d c => .tup [.str sShare, .int n, .int d, c.d]
  | .insured n d a c => .tup [.str sIns, .int n, .int d, .int a, c.d]
def CtrL.ds : CtrL → List D
  | .nil => []
  | .cons w c r => .tup [.int w, c.d] :: r.ds
end
/-- what a cap .. makes of an amount -/
def payQ : Ctr → Rat → Rat
  | .cap c _, a => if (c : Rat) < a then c else a
  | .floor c _, a => if a < (c : Rat) then c else a
  | .more c _, a => a + c
  | .share n d _, a => mkRat n d.toNat * a
  | .insured n d c _, a => a + mkRat n d.toNat * (if 0 < (c : Rat) - a then (c : Rat) - a else 0)
  | _, a => a
structure HasPaid (T : Tab) : Prop extends HasJoin T where
  paid : T (Str.ofString "paid") = some Lib.paid
theorem fr_int (c : Int) : D.tup [.int c, .int 1] = fr (c : Rat) := by
  unfold fr; simp
@[simp] theorem item2 (x y z : D) (r : List D) : item (.tup (x :: y :: z :: r)) (.int 2) = .ok z := by
  have : (2 : Int) < (r.length : Int) + 1 + 1 + 1 := by omega
  simp [item, at_, place, this]
@[simp] theorem item3 (x y z u : D) (r : List D) : item (.tup (x :: y :: z :: u :: r)) (.int 3) = .ok u := by
  have : (3 : Int) < (r.length : Int) + 1 + 1 + 1 + 1 := by omega
  simp [item, at_, place, this]
section
variable {T : Tab} (k : Nat) {a : Rat}
theorem paid_cap (F : HasPaid T) {c : Int} {b : Ctr} (ha : Sm a) (hc : Sm (c : Rat)) : call T (k + 4) (Str.ofString "paid") [] [(Ctr.cap c b).d, fr a] = .ok (.v (fr (payQ (.cap c b) a)), []) := by
  rw [call_of F.paid]
  have l := lesser_ok F.toHasFrac (k + 1) ha hc
  generalize call T (k + 3) = C at l
  unfold run Lib.paid
  simp [MF.start, Ctr.d, bound, pk, fr_int, cmp_str, l, payQ]
theorem paid_floor (F : HasPaid T) {c : Int} {b : Ctr} (ha : Sm a) (hc : Sm (c : Rat)) : call T (k + 4) (Str.ofString "paid") [] [(Ctr.floor c b).d, fr a] = .ok (.v (fr (payQ (.floor c b) a)), []) := by
  rw [call_of F.paid]
  have l := greater_ok F.toHasFrac (k + 1) ha hc
  generalize call T (k + 3) = C at l
  unfold run Lib.paid
  simp [MF.start, Ctr.d, bound, pk, fr_int, cmp_str, l, payQ]
theorem paid_more (F : HasPaid T) {c : Int} {b : Ctr} (ha : Sm a) (hc : Sm (c : Rat)) : call T (k + 4) (Str.ofString "paid") [] [(Ctr.more c b).d, fr a] = .ok (.v (fr (payQ (.more c b) a)), []) := by
  rw [call_of F.paid]
  have l := plus_ok F.toHasFrac (k + 1) ha hc
  generalize call T (k + 3) = C at l
  unfold run Lib.paid
  simp [MF.start, Ctr.d, bound, pk, fr_int, cmp_str, l, payQ]
theorem paid_share (F : HasPaid T) {n : Int} {d : Nat} {b : Ctr} (hd : 0 < d) (hdB : d < 2 ^ 9000) (ha : Sm a) (hc : Sm (mkRat n d)) : call T (k + 4) (Str.ofString "paid") [] [(Ctr.share n d b).d, fr a] = .ok (.v (fr (payQ (.share n d b) a)), []) := by
  rw [call_of F.paid]
  have l0 := lowest_fr F.lowest (k + 2) n d hd hdB
  have l := times_ok F.toHasFrac (k + 1) hc ha
  generalize call T (k + 3) = C at l l0
  unfold run Lib.paid
  simp [MF.start, Ctr.d, bound, pk, fr_int, cmp_str, l, l0, payQ]
theorem paid_ins (F : HasPaid T) {n c : Int} {d : Nat} {b : Ctr} (hd : 0 < d) (hdB : d < 2 ^ 9000) (ha : Sm a) (hc : Sm (mkRat n d)) (h0 : Sm (c : Rat)) (h1 : Sm ((c : Rat) - a)) (h2 : Sm (mkRat n d * (if 0 < (c : Rat) - a then (c : Rat) - a else 0))) :
    call T (k + 4) (Str.ofString "paid") [] [(Ctr.insured n d c b).d, fr a] = .ok (.v (fr (payQ (.insured n d c b) a)), []) := by
  rw [call_of F.paid]
  have z0 : Sm 0 := ⟨by decide +kernel, by decide +kernel⟩
  have l0 := lowest_fr F.lowest (k + 2) n d hd hdB
  have lm := minus_ok F.toHasFrac (k + 1) h0 ha
  have lg := greater_ok F.toHasFrac (k + 1) z0 h1
  have lt := times_ok F.toHasFrac (k + 1) hc (q := if 0 < (c : Rat) - a then (c : Rat) - a else 0) (by split; exact h1; exact z0)
  have lp := plus_ok F.toHasFrac (k + 1) ha h2
  have f0 : D.tup [.int 0, .int 1] = fr 0 := rfl
  generalize call T (k + 3) = C at l0 lm lg lt lp
  unfold run Lib.paid
  generalize hx : (if 0 < (c : Rat) - a then (c : Rat) - a else 0) = x at lg lt lp
  simp [MF.start, Ctr.d, bound, pk, fr_int, f0, cmp_str, lm, lg, lt, lp, l0, payQ, hx]
end
end MP

end
section
set_option linter.all false
set_option maxRecDepth 100000
set_option maxHeartbeats 2000000
/-! rows_of: the rows of a contract. -/
namespace MP
open PySem (Str)
@[simp] theorem last3 (a b c : D) : item (.tup [a, b, c]) (.int (-1)) = .ok c := id rfl
@[simp] theorem last4 (a b c d : D) : item (.tup [a, b, c, d]) (.int (-1)) = .ok d := id rfl
@[simp] theorem last5 (a b c d e : D) : item (.tup [a, b, c, d, e]) (.int (-1)) = .ok e := id rfl
def CtrL.sum : CtrL → Int
  | .nil => 0
  | .cons w _ r => w + r.sum
mutual
/-- the program's rows -/
def rowsQ : Ctr → List (Rat × Rat)
  | .sure c => [((c : Rat), 1)]
  | .draw l => joinQ (pairsQ l.sum l)
  | .cap a c => joinQ ((rowsQ c).map fun r => (payQ (.cap a c) r.1, r.2))
  | .floor a c => joinQ ((rowsQ c).map fun r => (payQ (.floor a c) r.1, r.2))
  | .more a c => joinQ ((rowsQ c).map fun r => (payQ (.more a c) r.1, r.2))
  | .share n d c => joinQ ((rowsQ c).map fun r => (payQ (.share n d c) r.1, r.2))
  | .insured n d a c => joinQ ((rowsQ c).map fun r => (payQ (.insured n d a c) r.1, r.2))
/-- .. of a drawing, not yet together -/
def pairsQ (W : Int) : CtrL → List (Rat × Rat)
  | .nil => []
  | .cons w c r => (rowsQ c).map (fun x => (x.1, x.2 * mkRat w W.toNat)) ++ pairsQ W r
end
structure HasRows (T : Tab) : Prop extends HasPaid T where
  rows_of : T (Str.ofString "rows_of") = some Lib.rows_of
/-- what joined asks of pairs -/
structure JOk (N : Nat) (rs : List (Rat × Rat)) : Prop where
  pos : 0 < N
  big : N < Big
  amt : ∀ r ∈ rs, r.1.den ∣ N ∧ r.1.num.natAbs < Big
  len : rs.length < 4000
  sm : JSm [] rs
/-- an operation: paid is right at each row -/
theorem rows_op {T : Tab} (F : HasRows T) (k : Nat) {c b : Ctr} {N : Nat} (hw : ∃ w r, c.d = .tup (.str w :: r) ∧ strOk w = true ∧ (w == Str.ofString "sure") = false ∧ (w == Str.ofString "draw") = false) (hb : item c.d (.int (-1)) = .ok b.d)
    (hrec : call T (k + 5) (Str.ofString "rows_of") [] [b.d] = .ok (.o ((rowsQ b).map rowD), [])) (hp : ∀ r ∈ rowsQ b, call T (k + 5) (Str.ofString "paid") [] [c.d, fr r.1] = .ok (.v (fr (payQ c r.1)), []))
    (hj : JOk N ((rowsQ b).map fun r => (payQ c r.1, r.2))) : call T (k + 6) (Str.ofString "rows_of") [] [c.d] = .ok (.o ((joinQ ((rowsQ b).map fun r => (payQ c r.1, r.2))).map rowD), []) := by
  rw [call_of F.rows_of]
  have lj := joined_ok F.toHasJoin (k + 1) hj.pos hj.big hj.amt hj.len hj.sm
  generalize call T (k + 5) = C at hrec hp lj
  obtain ⟨w, r0, hw1, hw2, hw3, hw4⟩ := hw
  have i0 : item c.d (.int 0) = .ok (.str w) := by rw [hw1]; exact item0 _ _
  have hit : items (.lst ((rowsQ b).map rowD)) = some ((rowsQ b).map rowD) := rfl
  generalize joinQ ((rowsQ b).map fun r => (payQ c r.1, r.2)) = out at lj ⊢
  generalize rowsQ b = rs at hrec hp lj hit
  obtain ⟨e2, h2, s1, s2, rfl⟩ := loopC_map (t := turnC C (.tp2 (.nm 5) (.nm 6)) .none (.tup (.cons (.call (Str.ofString "paid") (.cons (.var 0) (.cons (.var 5) .nil))) (.cons (.var 6) .nil))) [5, 6]) (f := rowD) (g := fun r => rowD (payQ c r.1, r.2))
    (I := fun env => ∃ s t, env = [.fz c.d, .un, .un, .un, .un, s, t]) rs [.fz c.d, .un, .un, .un, .un, .un, .un] [] ⟨_, _, rfl⟩ (by
      rintro r hr env ⟨s, t, rfl⟩
      refine ⟨[.fz c.d, .un, .un, .un, .un, .fz (fr r.1), .fz (fr r.2)], ?_, ⟨_, _, rfl⟩⟩
      have l1 := hp r hr
      have z : rowD r = .tup [fr r.1, fr r.2] := rfl
      rw [z]
      simp [l1, rowD])
  have hm2 : (rs.map fun r => rowD (payQ c r.1, r.2)) = (rs.map fun r => (payQ c r.1, r.2)).map rowD := by rw [List.map_map]; rfl
  rw [hm2] at h2
  have n2 : noOwn [Sl.fz c.d, .un, .un, .un, .un, .un, .un] [5, 6] = true := rfl
  generalize (rs.map fun r => (payQ c r.1, r.2)) = ps at h2 lj
  generalize hD : D.lst (rs.map rowD) = dd at hit
  generalize c.d = cd at i0 hb hp h2 n2 ⊢
  unfold run Lib.rows_of
  rw [← hD] at hit
  simp [MF.start, bound, pk, i0, hb, cmp_str, cmp_strN, hw2, hw3, hw4, hrec, n2]
  simp at h2
  simp [h2, lj]
/-- what a drawing asks of its parts -/
def PartsOk (T : Tab) (k : Nat) (W : Nat) : CtrL → Prop
  | .nil => True
  | .cons w c r => (call T (k + 5) (Str.ofString "rows_of") [] [c.d] = .ok (.o ((rowsQ c).map rowD), []) ∧ Sm (mkRat w W) ∧ ∀ x ∈ rowsQ c, Sm x.2) ∧ PartsOk T k W r
theorem sum_comp : ∀ (l : CtrL), ∃ ws : List Int, ws.sum = l.sum ∧ ∀ (C : CallF) (acc : List D) (s0 s1 s2 s3 s4 s5 s6 : Sl), ∃ t3 t4, loopC (turnC C (.tp2 (.nm 3) (.nm 4)) .none (.var 3) [3, 4]) l.ds [s0, s1, s2, s3, s4, s5, s6] acc = .ok (acc ++ ws.map D.int, [s0, s1, s2, t3, t4, s5, s6])
  | .nil => ⟨[], rfl, fun C acc s0 s1 s2 s3 s4 s5 s6 => ⟨s3, s4, by simp [CtrL.ds]⟩⟩
  | .cons w c r => by
    obtain ⟨ws, h1, h2⟩ := sum_comp r
    refine ⟨w :: ws, by simp [CtrL.sum, h1], fun C acc s0 s1 s2 s3 s4 s5 s6 => ?_⟩
    obtain ⟨t3, t4, e⟩ := h2 C (acc ++ [.int w]) s0 s1 s2 (.fz (.int w)) (.fz c.d) s5 s6
    refine ⟨t3, t4, ?_⟩
    simp [CtrL.ds]
    rw [e]
    simp
theorem draw_loop {T : Tab} {C : CallF} {k W : Nat} (hC : call T (k + 5) = C) (ll : ∀ w : Int, C (Str.ofString "lowest") [] [.int w, .int W] = .ok (.v (fr (mkRat w W)), [])) (lt : ∀ p q : Rat, Sm p → Sm q → C (Str.ofString "times") [] [fr p, fr q] = .ok (.v (fr (p * q)), [])) :
    ∀ (m : CtrL) (acc : List (Rat × Rat)) (s0 s3 s4 s5 s6 : Sl), (s5 = .un ∨ ∃ d, s5 = .fz d) → (s6 = .un ∨ ∃ d, s6 = .fz d) → PartsOk T k W m → acc.length + (pairsQ W m).length < 4000 →
      ∃ t3 t4, forL (turn C (.tp2 (.nm 3) (.nm 4)) (.cons (.asg 2 false (.bin .add (.var 2) (.comp (.tp2 (.nm 5) (.nm 6)) (.v (.call (Str.ofString "rows_of") (.cons (.var 4) .nil))) .none (.tup (.cons (.var 5) (.cons (.call (Str.ofString "times") (.cons (.var 6) (.cons (.call (Str.ofString "lowest") (.cons (.var 3) (.cons (.var 1) .nil))) .nil))) .nil))) [5, 6]))) .nil)) m.ds [s0, .fz (.int W), .fz (.lst (acc.map rowD)), s3, s4, s5, s6] =
        .ok (.nx, [s0, .fz (.int W), .fz (.lst ((acc ++ pairsQ W m).map rowD)), t3, t4, s5, s6])
  | .nil, acc, s0, s3, s4, s5, s6, _, _, _, _ => ⟨s3, s4, by simp [CtrL.ds, pairsQ]⟩
  | .cons w c r, acc, s0, s3, s4, s5, s6, h5, h6, hp, hlen => by
    obtain ⟨⟨p1, p2, p3⟩, p4⟩ := hp
    rw [hC] at p1
    unfold pairsQ at hlen ⊢
    rw [List.length_append, List.length_map] at hlen
    obtain ⟨t3, t4, e⟩ := draw_loop hC ll lt r (acc ++ (rowsQ c).map (fun x => (x.1, x.2 * mkRat w (W : Int).toNat))) s0 (.fz (.int w)) (.fz c.d) s5 s6 h5 h6 p4 (by rw [List.length_append, List.length_map]; omega)
    refine ⟨t3, t4, ?_⟩
    have hWn : (W : Int).toNat = W := Int.toNat_natCast W
    rw [hWn] at e ⊢
    obtain ⟨e2, h2, u5, u6, rfl⟩ := loopC_map (t := turnC C (.tp2 (.nm 5) (.nm 6)) .none (.tup (.cons (.var 5) (.cons (.call (Str.ofString "times") (.cons (.var 6) (.cons (.call (Str.ofString "lowest") (.cons (.var 3) (.cons (.var 1) .nil))) .nil))) .nil))) [5, 6]) (f := rowD) (g := fun x => rowD (x.1, x.2 * mkRat w W))
      (I := fun env => ∃ s t, env = [s0, .fz (.int W), .fz (.lst (acc.map rowD)), .fz (.int w), .fz c.d, s, t]) (rowsQ c) [s0, .fz (.int W), .fz (.lst (acc.map rowD)), .fz (.int w), .fz c.d, s5, s6] [] ⟨_, _, rfl⟩ (by
        rintro x hx env ⟨s, t, rfl⟩
        refine ⟨[s0, .fz (.int W), .fz (.lst (acc.map rowD)), .fz (.int w), .fz c.d, .fz (fr x.1), .fz (fr x.2)], ?_, ⟨_, _, rfl⟩⟩
        have l1 := ll w
        have l2 := lt x.2 (mkRat w W) (p3 x hx) p2
        have z : rowD x = .tup [fr x.1, fr x.2] := rfl
        rw [z]
        simp [l1, l2, rowD])
    have hm2 : ((rowsQ c).map fun x => rowD (x.1, x.2 * mkRat w W)) = ((rowsQ c).map fun x => (x.1, x.2 * mkRat w W)).map rowD := by rw [List.map_map]; rfl
    rw [hm2] at h2
    have n2 : noOwn [s0, Sl.fz (.int W), .fz (.lst (acc.map rowD)), .fz (.int w), .fz c.d, s5, s6] [5, 6] = true := by
      rcases h5 with rfl | ⟨d5, rfl⟩ <;> rcases h6 with rfl | ⟨d6, rfl⟩ <;> rfl
    have hadd : bin2 .add (.lst (acc.map rowD)) (.lst (((rowsQ c).map fun x => (x.1, x.2 * mkRat w W)).map rowD)) = .ok (.o ((acc ++ (rowsQ c).map fun x => (x.1, x.2 * mkRat w W)).map rowD)) := by
      show (if (acc.map rowD).length + (((rowsQ c).map fun x => (x.1, x.2 * mkRat w W)).map rowD).length ≤ line then _ else _) = _
      rw [if_pos (by simp only [List.length_map]; unfold line; omega), List.map_append]
    rw [← List.append_assoc]
    have hds : (CtrL.cons w c r).ds = .tup [.int w, c.d] :: r.ds := rfl
    rw [hds, forL_cons]
    generalize (rowsQ c).map (fun x => (x.1, x.2 * mkRat w W)) = ps at h2 hadd e ⊢
    simp at h2
    simp [p1, n2, h2, hadd]
    simp at e
    exact e
theorem rows_draw {T : Tab} (F : HasRows T) (k : Nat) {l : CtrL} {W N : Nat} (hW : l.sum = W) (hW0 : 0 < W) (hWB : W < Big) (hp : PartsOk T k W l) (hj : JOk N (pairsQ W l)) :
    call T (k + 6) (Str.ofString "rows_of") [] [(Ctr.draw l).d] = .ok (.o ((joinQ (pairsQ W l)).map rowD), []) := by
  rw [call_of F.rows_of]
  have lj := joined_ok F.toHasJoin (k + 1) hj.pos hj.big hj.amt hj.len hj.sm
  have ll := fun (w : Int) => lowest_fr F.lowest (k + 4) w W hW0 (Nat.lt_trans hWB Big_lt)
  have lt := fun (p q : Rat) a b => times_ok F.toHasFrac (k + 3) (p := p) (q := q) a b
  have hlen := hj.len
  have hd : (Ctr.draw l).d = .tup [.str (Str.ofString "draw"), .tup l.ds] := rfl
  rw [hd]
  obtain ⟨ws, hws, hcomp⟩ := sum_comp l
  generalize hC : call T (k + 5) = C at lj ll lt
  obtain ⟨t3, t4, e⟩ := draw_loop hC ll lt l [] (.fz (.tup [.str (Str.ofString "draw"), .tup l.ds])) .un .un .un .un (.inl rfl) (.inl rfl) hp (by simpa using hlen)
  obtain ⟨u3, u4, hcc⟩ := hcomp C [] (.fz (.tup [.str (Str.ofString "draw"), .tup l.ds])) .un .un .un .un .un .un
  have n3 : noOwn [Sl.fz (.tup [.str (Str.ofString "draw"), .tup l.ds]), .un, .un, .un, .un, .un, .un] [3, 4] = true := rfl
  have hsum : bi1 .sum [.lst (ws.map D.int)] = .ok (.v (.int W)) := by
    unfold bi1
    dsimp only
    unfold bsum
    dsimp only
    rw [intsD_map]
    dsimp only
    rw [hws, hW]
  unfold run Lib.rows_of
  simp at hcc e
  simp [MF.start, bound, pk, cmp_str, cmp_strN, n3, hcc, hsum, e, lj]
end MP

end
section
set_option linter.all false
set_option maxRecDepth 100000
set_option maxHeartbeats 1000000
/-! The law's own fractions. -/
namespace MP
open PySem (Str)
@[simp] theorem cmp_neI (i j : Int) : cmp2 .ne (.int i) (.int j) = .ok (!(i == j)) := id rfl
@[simp] theorem cmp_eqI (i j : Int) : cmp2 .eq (.int i) (.int j) = .ok (i == j) := id rfl
structure HasLaw (T : Tab) : Prop where
  low : T (Str.ofString "_law_low") = some Lib._law_low
  add : T (Str.ofString "_law_add") = some Lib._law_add
  less : T (Str.ofString "_law_less") = some Lib._law_less
  mul : T (Str.ofString "_law_mul") = some Lib._law_mul
  sum : T (Str.ofString "_law_sum") = some Lib._law_sum
theorem low_ok {T : Tab} (h : T (Str.ofString "_law_low") = some Lib._law_low) (k : Nat) (t : Int) (b : Nat) (hb : 0 < b) (hs : b < 2 ^ 9000) :
    call T (k + 1) (Str.ofString "_law_low") [] [.int t, .int b] = .ok (.v (fr (mkRat t b)), []) := by
  rw [call_of h]
  unfold run Lib._law_low
  generalize call T k = C
  have g := gcd_loop (c := evt C (.v (.cmp .ne (.var 3) (.con (.int 0))))) (bd := exs C (.cons (.par [(2, false), (3, false)] (.cons (.var 3) (.cons (.bin .mod (.var 2) (.var 3)) .nil))) .nil)) (t := .int t) (u := .int b)
    (fun a b => by
      have : (!((b : Int) == 0)) = decide (0 < b) := by
        by_cases h : b = 0
        · subst h; rfl
        · have h2 : ((b : Int) == 0) = false := by
            rw [beq_eq_false_iff_ne]; omega
          rw [h2, decide_eq_true (by omega)]; rfl
      simp [this]) (fun a b hb => by simp [bin2, hb]) b t.natAbs wfuel (wfuel_big hs)
  have h1 : (if t < 0 then -t else t) = (t.natAbs : Int) := by split <;> omega
  have h2 : (if (b : Int) < 0 then -(b : Int) else b) = b := by rw [if_neg (by omega)]
  have hg : 0 < Nat.gcd t.natAbs b := Nat.gcd_pos_of_pos_right _ hb
  have hd := divOk_of hg (Nat.lt_of_le_of_lt (Nat.le_of_dvd hb (Nat.gcd_dvd_right _ _)) hs)
  have e : mkRat t b = Rat.normalize t b (by omega) := by rw [Rat.mkRat_def, dif_neg (by omega)]
  have e2 : fr (mkRat t b) = .tup [.int (t / (Nat.gcd t.natAbs b : Nat)), .int (b / (Nat.gcd t.natAbs b : Nat) : Nat)] := by
    rw [e, Rat.normalize_eq]; rfl
  rw [e2]
  simp [MF.start, bi1, babs, h1, h2, g, bin2, hd, hb]
theorem add_ok' {T : Tab} (F : HasLaw T) (k : Nat) {p q : Rat} (hp : Sm p) (hq : Sm q) : call T (k + 2) (Str.ofString "_law_add") [] [fr p, fr q] = .ok (.v (fr (p + q)), []) := by
  rw [call_of F.add]
  have l := low_ok F.low k (p.num * q.den + q.num * p.den) (p.den * q.den) (Nat.mul_pos p.den_pos q.den_pos) (Big_sq hp.den hq.den)
  rw [Int.natCast_mul, ← Rat.add_def'] at l
  generalize call T (k + 1) = C at l
  generalize hr : fr (p + q) = r at l ⊢
  have a0 : ev C (.ixv 0 (.con (.int 0))) [.fz (fr p), .fz (fr q)] = .ok (.v (.int p.num), [.fz (fr p), .fz (fr q)]) := ixv_ok rfl rfl rfl
  have a1 : ev C (.ixv 0 (.con (.int 1))) [.fz (fr p), .fz (fr q)] = .ok (.v (.int p.den), [.fz (fr p), .fz (fr q)]) := ixv_ok rfl rfl rfl
  have b0 : ev C (.ixv 1 (.con (.int 0))) [.fz (fr p), .fz (fr q)] = .ok (.v (.int q.num), [.fz (fr p), .fz (fr q)]) := ixv_ok rfl rfl rfl
  have b1 : ev C (.ixv 1 (.con (.int 1))) [.fz (fr p), .fz (fr q)] = .ok (.v (.int q.den), [.fz (fr p), .fz (fr q)]) := ixv_ok rfl rfl rfl
  unfold run Lib._law_add
  simp [MF.start, a0, a1, b0, b1, mul_ok hp.num hq.den', mul_ok hq.num hp.den', mul_ok hp.den' hq.den', mul_ok hp.num hq.num, l, -ev_ixv]
/-- the latter one in any terms -/
theorem mul_gen {T : Tab} (F : HasLaw T) (k : Nat) {p : Rat} {n : Int} {d : Nat} (hp : Sm p) (hn : n.natAbs < Big) (hd0 : 0 < d) (hd : d < Big) : call T (k + 2) (Str.ofString "_law_mul") [] [fr p, .tup [.int n, .int d]] = .ok (.v (fr (p * mkRat n d)), []) := by
  rw [call_of F.mul]
  have l := low_ok F.low k (p.num * n) (p.den * d) (Nat.mul_pos p.den_pos hd0) (Big_sq hp.den hd)
  have e : mkRat (p.num * n) (p.den * d) = p * mkRat n d := by
    conv => rhs; rw [← Rat.mkRat_self p]
    rw [Rat.mkRat_mul_mkRat]
  rw [Int.natCast_mul, e] at l
  generalize call T (k + 1) = C at l
  generalize hr : fr (p * mkRat n d) = r at l ⊢
  have hd' : (d : Int).natAbs < Big := by simpa using hd
  have a0 : ev C (.ixv 0 (.con (.int 0))) [.fz (fr p), .fz (.tup [.int n, .int d])] = .ok (.v (.int p.num), [.fz (fr p), .fz (.tup [.int n, .int d])]) := ixv_ok rfl rfl rfl
  have a1 : ev C (.ixv 0 (.con (.int 1))) [.fz (fr p), .fz (.tup [.int n, .int d])] = .ok (.v (.int p.den), [.fz (fr p), .fz (.tup [.int n, .int d])]) := ixv_ok rfl rfl rfl
  have b0 : ev C (.ixv 1 (.con (.int 0))) [.fz (fr p), .fz (.tup [.int n, .int d])] = .ok (.v (.int n), [.fz (fr p), .fz (.tup [.int n, .int d])]) := ixv_ok rfl rfl rfl
  have b1 : ev C (.ixv 1 (.con (.int 1))) [.fz (fr p), .fz (.tup [.int n, .int d])] = .ok (.v (.int d), [.fz (fr p), .fz (.tup [.int n, .int d])]) := ixv_ok rfl rfl rfl
  unfold run Lib._law_mul
  simp [MF.start, a0, a1, b0, b1, mul_ok hp.num hn, mul_ok hp.den' hd', l, -ev_ixv]
theorem mul_ok' {T : Tab} (F : HasLaw T) (k : Nat) {p q : Rat} (hp : Sm p) (hq : Sm q) : call T (k + 2) (Str.ofString "_law_mul") [] [fr p, fr q] = .ok (.v (fr (p * q)), []) := by
  have := mul_gen F k hp hq.num q.den_pos hq.den
  rw [Rat.mkRat_self] at this
  exact this
theorem less_ok0 {T : Tab} (F : T (Str.ofString "_law_less") = some Lib._law_less) (k : Nat) {p q : Rat} (hp : Sm p) (hq : Sm q) : call T (k + 1) (Str.ofString "_law_less") [] [fr p, fr q] = .ok (.v (.bl (decide (p < q))), []) := by
  rw [call_of F]
  generalize call T k = C
  have a0 : ev C (.ixv 0 (.con (.int 0))) [.fz (fr p), .fz (fr q)] = .ok (.v (.int p.num), [.fz (fr p), .fz (fr q)]) := ixv_ok rfl rfl rfl
  have a1 : ev C (.ixv 0 (.con (.int 1))) [.fz (fr p), .fz (fr q)] = .ok (.v (.int p.den), [.fz (fr p), .fz (fr q)]) := ixv_ok rfl rfl rfl
  have b0 : ev C (.ixv 1 (.con (.int 0))) [.fz (fr p), .fz (fr q)] = .ok (.v (.int q.num), [.fz (fr p), .fz (fr q)]) := ixv_ok rfl rfl rfl
  have b1 : ev C (.ixv 1 (.con (.int 1))) [.fz (fr p), .fz (fr q)] = .ok (.v (.int q.den), [.fz (fr p), .fz (fr q)]) := ixv_ok rfl rfl rfl
  unfold run Lib._law_less
  simp [MF.start, a0, a1, b0, b1, mul_ok hp.num hq.den', mul_ok hq.num hp.den', -ev_ixv, Rat.lt_iff]
theorem less_ok {T : Tab} (F : HasLaw T) (k : Nat) {p q : Rat} (hp : Sm p) (hq : Sm q) : call T (k + 1) (Str.ofString "_law_less") [] [fr p, fr q] = .ok (.v (.bl (decide (p < q))), []) := less_ok0 F.less k hp hq
theorem lsum_ok {T : Tab} (F : HasLaw T) (k : Nat) {qs : List Rat} (hs : SmAll 0 qs) : call T (k + 3) (Str.ofString "_law_sum") [] [.lst (qs.map fr)] = .ok (.v (fr (sumQ 0 qs)), []) := by
  rw [call_of F.sum]
  have l := fun (p q : Rat) hp hq => add_ok' F k (p := p) (q := q) hp hq
  generalize call T (k + 2) = C at l
  have loop : ∀ (qs : List Rat) (a : Rat) (s0 s2 : Sl), SmAll a qs → ∃ s2', forL (turn C (.nm 2) (.cons (.asg 1 false (.call (Str.ofString "_law_add") (.cons (.var 1) (.cons (.var 2) .nil)))) .nil)) (qs.map fr) [s0, .fz (fr a), s2] = .ok (.nx, [s0, .fz (fr (sumQ a qs)), s2']) := by
    intro qs
    induction qs with
    | nil => intro a s0 s2 _; exact ⟨s2, rfl⟩
    | cons q r ih =>
      intro a s0 s2 h
      obtain ⟨h1, h2, h3⟩ := h
      obtain ⟨s2', e⟩ := ih (a + q) s0 (.fz (fr q)) h3
      refine ⟨s2', ?_⟩
      simp [l a q h1 h2]
      exact e
  obtain ⟨s2', e⟩ := loop qs 0 (.fz (.lst (qs.map fr))) .un hs
  unfold run Lib._law_sum
  have z : fr 0 = .tup [.int 0, .int 1] := rfl
  rw [z] at e
  simp [MF.start, e]
end MP

end
section
set_option linter.all false
set_option maxRecDepth 100000
set_option maxHeartbeats 1000000
/-! The law's ordered list. -/
namespace MP
open PySem (Str)
structure HasLaw2 (T : Tab) : Prop extends HasLaw T where
  ordered : T (Str.ofString "_law_ordered") = some Lib._law_ordered
def insL (acc : List Rat) (q : Rat) : List Rat := if q ∈ acc then acc else acc.take (acc.filter fun x => decide (x < q)).length ++ [q] ++ acc.drop (acc.filter fun x => decide (x < q)).length
def ordL (acc : List Rat) : List Rat → List Rat
  | [] => acc
  | q :: r => ordL (insL acc q) r
theorem dq_fr (a b : Rat) : dq (fr a) (fr b) = decide (a = b) := by
  by_cases h : a = b
  · subst h; rw [decide_eq_true rfl]; simp [fr, dq, dqs]
  · rw [decide_eq_false h]
    cases e : dq (fr a) (fr b) with
    | false => rfl
    | true =>
      simp [fr, dq, dqs] at e
      exact absurd (Rat.ext e.1 (by exact_mod_cast e.2)) h
theorem isIn_fr (q : Rat) : ∀ l : List Rat, isIn (fr q) (l.map fr) = decide (q ∈ l)
  | [] => by simp [isIn]
  | x :: l => by
    rw [List.map_cons, isIn, isIn_fr q l, dq_fr]
    by_cases h : x = q
    · subst h; simp
    · have : ¬ q = x := fun e => h e.symm
      simp [h, this]
theorem shs_fr : ∀ l : List Rat, shs 60 (l.map fr) = true
  | [] => rfl
  | x :: l => by rw [List.map_cons, shs, shs_fr l]; rfl
theorem notin_fr (q : Rat) (l : List Rat) : cmp2 .notin (fr q) (.lst (l.map fr)) = .ok (!decide (q ∈ l)) := by
  show (if (sh 60 (fr q) && shs 60 (l.map fr)) = true then _ else _) = _
  rw [shs_fr, show sh 60 (fr q) = true from rfl]
  show Out.ok (!isIn (fr q) (l.map fr)) = _
  rw [isIn_fr]
theorem loopC_filter {α : Type} {t : D → En → Out (Option D × En)} {f : α → D} {p : α → Bool} {I : En → Prop} : ∀ (xs : List α) (env : En) (acc : List D), I env → (∀ x ∈ xs, ∀ env, I env → ∃ env', t (f x) env = .ok (if p x then some (f x) else none, env') ∧ I env') →
    ∃ env', loopC t (xs.map f) env acc = .ok (acc ++ (xs.filter p).map f, env') ∧ I env'
  | [], env, acc, h, _ => ⟨env, by simp, h⟩
  | x :: xs, env, acc, h, ht => by
    obtain ⟨e1, h1, h2⟩ := ht x (by simp) env h
    cases hp : p x with
    | true =>
      obtain ⟨e2, h3, h4⟩ := loopC_filter xs e1 (acc ++ [f x]) h2 fun y hy => ht y (by simp [hy])
      refine ⟨e2, ?_, h4⟩
      rw [List.map_cons, loopC_cons, h1, hp]
      simp only [bind_ok', if_pos]
      rw [h3]
      simp [hp]
    | false =>
      obtain ⟨e2, h3, h4⟩ := loopC_filter xs e1 acc h2 fun y hy => ht y (by simp [hy])
      refine ⟨e2, ?_, h4⟩
      rw [List.map_cons, loopC_cons, h1, hp]
      simp [h3, hp]
theorem ordered_ok0 {T : Tab} (F0 : T (Str.ofString "_law_less") = some Lib._law_less) (F1 : T (Str.ofString "_law_ordered") = some Lib._law_ordered) (k : Nat) {qs : List Rat} (hs : ∀ q ∈ qs, Sm q) (hl : qs.length < 4000) :
    call T (k + 2) (Str.ofString "_law_ordered") [] [.lst (qs.map fr)] = .ok (.v (.lst ((ordL [] qs).map fr)), []) := by
  rw [call_of F1]
  have l := fun (p q : Rat) hp hq => less_ok0 F0 k (p := p) (q := q) hp hq
  generalize call T (k + 1) = C at l
  have loop : ∀ (qs acc : List Rat) (s0 s2 s3 s4 : Sl), (s4 = .un ∨ ∃ d, s4 = .fz d) → (∀ q ∈ qs, Sm q) → (∀ q ∈ acc, Sm q) → acc.length + qs.length < 4000 → ∃ t2 t3, forL (turn C (.nm 2) (.cons (.iff (.v (.cmp .notin (.var 2) (.var 1))) (.cons (.asg 3 false (.bi .len (.cons (.comp (.nm 4) (.v (.var 1)) (.some (.v (.call (Str.ofString "_law_less") (.cons (.var 4) (.cons (.var 2) .nil))))) (.var 4) [4]) .nil))) (.cons (.asg 1 false (.bin .add (.bin .add (.sl (.var 1) .none (.some (.var 3))) (.lst (.cons (.var 2) .nil))) (.sl (.var 1) (.some (.var 3)) .none))) .nil)) .nil) .nil)) (qs.map fr) [s0, .fz (.lst (acc.map fr)), s2, s3, s4] =
      .ok (.nx, [s0, .fz (.lst ((ordL acc qs).map fr)), t2, t3, s4]) := by
    intro qs
    induction qs with
    | nil => intro acc s0 s2 s3 s4 _ _ _ _; exact ⟨s2, s3, rfl⟩
    | cons q r ih =>
      intro acc s0 s2 s3 s4 h4 hq ha hlen
      rw [List.length_cons] at hlen
      have hqq := hq q (by simp)
      rw [List.map_cons, forL_cons]
      have e0 : ordL acc (q :: r) = ordL (insL acc q) r := rfl
      rw [e0]
      by_cases hm : q ∈ acc
      · have e1 : insL acc q = acc := if_pos hm
        rw [e1]
        obtain ⟨t2, t3, e⟩ := ih acc s0 (.fz (fr q)) s3 s4 h4 (fun x hx => hq x (by simp [hx])) ha (by omega)
        refine ⟨t2, t3, ?_⟩
        simp [notin_fr, hm]
        exact e
      · have e1 : insL acc q = acc.take (acc.filter fun x => decide (x < q)).length ++ [q] ++ acc.drop (acc.filter fun x => decide (x < q)).length := if_neg hm
        have hfl : (acc.filter fun x => decide (x < q)).length ≤ acc.length := List.length_filter_le _ _
        rw [e1]
        obtain ⟨e2, h2, u4, rfl⟩ := loopC_filter (t := turnC C (.nm 4) (.some (.v (.call (Str.ofString "_law_less") (.cons (.var 4) (.cons (.var 2) .nil))))) (.var 4) [4]) (f := fr) (p := fun x => decide (x < q))
          (I := fun env => ∃ s, env = [s0, .fz (.lst (acc.map fr)), .fz (fr q), s3, s]) acc [s0, .fz (.lst (acc.map fr)), .fz (fr q), s3, s4] [] ⟨_, rfl⟩ (by
            rintro x hx env ⟨s, rfl⟩
            refine ⟨[s0, .fz (.lst (acc.map fr)), .fz (fr q), s3, .fz (fr x)], ?_, ⟨_, rfl⟩⟩
            have l1 := l x q (ha x hx) hqq
            by_cases hlt : x < q <;> simp [l1, hlt])
        generalize hn : (acc.filter fun x => decide (x < q)).length = n at hfl
        have n4 : noOwn [s0, Sl.fz (.lst (acc.map fr)), .fz (fr q), s3, s4] [4] = true := by
          rcases h4 with rfl | ⟨d, rfl⟩ <;> rfl
        have hc1 : slice (.lst (acc.map fr)) none (some (n : Int)) = .ok (.o ((acc.take n).map fr)) := by
          unfold slice cut
          simp [sIx]
          rw [if_neg (by omega)]
          omega
        have hc2 : slice (.lst (acc.map fr)) (some (n : Int)) none = .ok (.o ((acc.drop n).map fr)) := by
          unfold slice cut
          simp [sIx]
          rw [if_neg (by omega), Nat.min_eq_left hfl]
          rw [← List.map_drop, List.take_of_length_le (by simp)]
        have hb1 : bin2 .add (.lst ((acc.take n).map fr)) (.lst [fr q]) = .ok (.o ((acc.take n ++ [q]).map fr)) := by
          show (if _ ≤ line then _ else _) = _
          rw [if_pos (by simp; unfold line; omega), List.map_append]; rfl
        have hb2 : bin2 .add (.lst ((acc.take n ++ [q]).map fr)) (.lst ((acc.drop n).map fr)) = .ok (.o ((acc.take n ++ [q] ++ acc.drop n).map fr)) := by
          show (if _ ≤ line then _ else _) = _
          rw [if_pos (by simp; unfold line; omega), List.map_append (l₂ := acc.drop n)]
        have hbl : bi1 .len [.lst ((acc.filter fun x => decide (x < q)).map fr)] = .ok (.v (.int n)) := by
          have hx : ∀ ds : List D, bi1 .len [.lst ds] = .ok (.v (.int ds.length)) := fun _ => rfl
          rw [hx, List.length_map, hn]
        obtain ⟨t2, t3, e⟩ := ih (acc.take n ++ [q] ++ acc.drop n) s0 (.fz (fr q)) (.fz (.int n)) s4 h4 (fun x hx => hq x (by simp [hx])) (fun x hx => by
          rcases List.mem_append.mp hx with hx | hx
          · rcases List.mem_append.mp hx with hx | hx
            · exact ha x (List.mem_of_mem_take hx)
            · have : x = q := by simpa using hx
              rw [this]; exact hqq
          · exact ha x (List.mem_of_mem_drop hx)) (by simp; omega)
        refine ⟨t2, t3, ?_⟩
        generalize acc.take n ++ [q] ++ acc.drop n = out at hb2 e ⊢
        simp at h2
        simp [notin_fr, hm, n4, h2, hbl, hc1, hc2, hb1, hb2, -List.map_take, -List.map_drop, -List.map_append]
        exact e
  obtain ⟨t2, t3, e⟩ := loop qs [] (.fz (.lst (qs.map fr))) .un .un .un (.inl rfl) hs (by simp) (by simpa using hl)
  unfold run Lib._law_ordered
  simp at e
  simp [MF.start, e]
theorem ordered_ok {T : Tab} (F : HasLaw2 T) (k : Nat) {qs : List Rat} (hs : ∀ q ∈ qs, Sm q) (hl : qs.length < 4000) :
    call T (k + 2) (Str.ofString "_law_ordered") [] [.lst (qs.map fr)] = .ok (.v (.lst ((ordL [] qs).map fr)), []) := ordered_ok0 F.less F.ordered k hs hl
end MP

end
section
/-! The law's insertion order is the order: ordL [] qs is IsOrd of qs. -/
set_option maxHeartbeats 400000
namespace MP
theorem split_lt (q : Rat) : ∀ (acc : List Rat), acc.Pairwise (· < ·) →
    acc.take (acc.filter fun x => decide (x < q)).length = (acc.filter fun x => decide (x < q)) ∧
    acc.drop (acc.filter fun x => decide (x < q)).length = (acc.filter fun x => !decide (x < q))
  | [], _ => ⟨rfl, rfl⟩
  | x :: r, h => by
    have hr := split_lt q r (List.pairwise_cons.mp h).2
    have hx := (List.pairwise_cons.mp h).1
    by_cases c : x < q
    · simp [c, hr.1, hr.2]
    · have e1 : (r.filter fun x => decide (x < q)) = [] := by
        apply List.filter_eq_nil_iff.mpr
        intro y hy
        have := hx y hy
        simp only [decide_eq_true_eq]
        grind
      have e2 : (r.filter fun x => !decide (x < q)) = r := by
        apply List.filter_eq_self.mpr
        intro y hy
        have := hx y hy
        simp only [Bool.not_eq_true', decide_eq_false_iff_not]
        grind
      simp [c, e1, e2]
theorem insL_sorted {acc : List Rat} {q : Rat} (h : acc.Pairwise (· < ·)) : (insL acc q).Pairwise (· < ·) := by
  by_cases hm : q ∈ acc
  · rw [show insL acc q = acc from if_pos hm]; exact h
  · rw [show insL acc q = _ from if_neg hm, (split_lt q acc h).1, (split_lt q acc h).2]
    have f1 := h.filter (fun x => decide (x < q))
    have f2 := h.filter (fun x => !decide (x < q))
    rw [List.append_assoc, List.pairwise_append]
    refine ⟨f1, ?_, ?_⟩
    · rw [List.singleton_append, List.pairwise_cons]
      refine ⟨fun y hy => ?_, f2⟩
      have h1 := List.mem_filter.mp hy
      have h2 : ¬ y < q := by simpa using h1.2
      have h3 : y ≠ q := fun e => hm (e ▸ h1.1)
      grind
    · intro a ha b hb
      have h1 : a < q := by simpa using (List.mem_filter.mp ha).2
      rcases List.mem_append.mp hb with hb | hb
      · rw [List.mem_singleton] at hb; rw [hb]; exact h1
      · have h2 : ¬ b < q := by simpa using (List.mem_filter.mp hb).2
        grind
theorem mem_insL {acc : List Rat} {q y : Rat} : y ∈ insL acc q ↔ y ∈ acc ∨ y = q := by
  by_cases hm : q ∈ acc
  · rw [show insL acc q = acc from if_pos hm]; constructor
    · exact .inl
    · rintro (h | rfl)
      · exact h
      · exact hm
  · rw [show insL acc q = _ from if_neg hm]
    have := List.take_append_drop (acc.filter fun x => decide (x < q)).length acc
    generalize (acc.filter fun x => decide (x < q)).length = n at *
    rw [List.mem_append, List.mem_append, List.mem_singleton]
    have m : y ∈ acc ↔ y ∈ acc.take n ∨ y ∈ acc.drop n := by rw [← List.mem_append, this]
    rw [m]; grind
theorem ordL_sorted : ∀ (qs : List Rat) {acc : List Rat}, acc.Pairwise (· < ·) → (ordL acc qs).Pairwise (· < ·)
  | [], _, h => h
  | _ :: r, _, h => ordL_sorted r (insL_sorted h)
theorem mem_ordL : ∀ (qs : List Rat) {acc : List Rat} {y : Rat}, y ∈ ordL acc qs ↔ y ∈ acc ∨ y ∈ qs
  | [], _, _ => by simp [ordL]
  | q :: r, _, _ => by
    show _ ∈ ordL (insL _ q) r ↔ _
    rw [mem_ordL r, mem_insL, List.mem_cons, or_assoc]
theorem ordL_eq (qs : List Rat) : ordL [] qs = ordQ qs :=
  IsOrd.uniq (ordL_sorted qs .nil) ordQ_is.asc fun y => by rw [mem_ordL, ordQ_is.mem]; simp
end MP

end
section
set_option linter.all false
set_option maxRecDepth 100000
set_option maxHeartbeats 1000000
/-! The law's amount made by a contract. -/
namespace MP
open PySem (Str)
structure HasMade (T : Tab) : Prop extends HasLaw2 T where
  made : T (Str.ofString "_law_made") = some Lib._law_made
abbrev capFloor : D := .lst [.str (Str.ofString "cap"), .str (Str.ofString "floor")]
theorem in_two {x y z : Str} (hx : strOk x = true) (hy : strOk y = true) (hz : strOk z = true) : cmp2 .in_ (.str x) (.lst [.str y, .str z]) = .ok (y == x || z == x) := by
  show (if (sh 60 (.str x) && shs 60 [.str y, .str z]) = true then _ else _) = _
  have a : sh 60 (.str x) = true := hx
  have b : shs 60 [.str y, .str z] = true := by
    have b1 : sh 60 (.str y) = true := hy
    have b2 : sh 60 (.str z) = true := hz
    simp [shs, b1, b2]
  rw [a, b]
  simp [isIn, dq]
@[simp] theorem in_cap : cmp2 .in_ (.str sCap) capFloor = .ok true := by rw [in_two] <;> simp
@[simp] theorem in_floor : cmp2 .in_ (.str sFloor) capFloor = .ok true := by rw [in_two] <;> simp
@[simp] theorem in_more : cmp2 .in_ (.str sMore) capFloor = .ok false := by rw [in_two] <;> simp
@[simp] theorem in_share : cmp2 .in_ (.str sShare) capFloor = .ok false := by rw [in_two] <;> simp
@[simp] theorem in_ins : cmp2 .in_ (.str sIns) capFloor = .ok false := by rw [in_two] <;> simp
@[simp] theorem cmp_bl (a b : Bool) : cmp2 .eq (.bl a) (.bl b) = .ok (a == b) := by cases a <;> cases b <;> rfl
section
variable {T : Tab} {k : Nat} {a : Rat}
theorem made_cap (F : HasMade T) {c : Int} {b : Ctr} (ha : Sm a) (hc : Sm (c : Rat)) : call T (k + 4) (Str.ofString "_law_made") [] [(Ctr.cap c b).d, fr a] = .ok (.v (fr (payQ (.cap c b) a)), []) := by
  rw [call_of F.made]
  have l := less_ok F.toHasLaw (k + 2) ha hc
  generalize call T (k + 3) = C at l
  unfold run Lib._law_made
  by_cases h : a < (c : Rat)
  · have h' : ¬ (c : Rat) < a := by grind
    simp [MF.start, Ctr.d, bound, pk, fr_int, cmp_str, l, payQ, h, h', isIn, dq]
  · by_cases h' : (c : Rat) < a
    · simp [MF.start, Ctr.d, bound, pk, fr_int, cmp_str, l, payQ, h, h', isIn, dq]
    · have : a = c := by grind
      subst this
      simp [MF.start, Ctr.d, bound, pk, fr_int, cmp_str, l, payQ, h, h', isIn, dq]
theorem made_more (F : HasMade T) {c : Int} {b : Ctr} (ha : Sm a) (hc : Sm (c : Rat)) : call T (k + 4) (Str.ofString "_law_made") [] [(Ctr.more c b).d, fr a] = .ok (.v (fr (payQ (.more c b) a)), []) := by
  rw [call_of F.made]
  have l := add_ok' F.toHasLaw (k + 1) ha hc
  generalize call T (k + 3) = C at l
  unfold run Lib._law_made
  simp [MF.start, Ctr.d, bound, pk, fr_int, cmp_str, l, payQ, isIn, dq]
theorem made_floor (F : HasMade T) {c : Int} {b : Ctr} (ha : Sm a) (hc : Sm (c : Rat)) : call T (k + 4) (Str.ofString "_law_made") [] [(Ctr.floor c b).d, fr a] = .ok (.v (fr (payQ (.floor c b) a)), []) := by
  rw [call_of F.made]
  have l := less_ok F.toHasLaw (k + 2) ha hc
  generalize call T (k + 3) = C at l
  unfold run Lib._law_made
  by_cases h : a < (c : Rat)
  · simp [MF.start, Ctr.d, bound, pk, fr_int, cmp_str, l, payQ, h]
  · simp [MF.start, Ctr.d, bound, pk, fr_int, cmp_str, l, payQ, h]
theorem made_share (F : HasMade T) {n d : Int} {b : Ctr} (ha : Sm a) (hn : n.natAbs < Big) (hd : 0 < d) (hdB : d.toNat < Big) : call T (k + 4) (Str.ofString "_law_made") [] [(Ctr.share n d b).d, fr a] = .ok (.v (fr (payQ (.share n d b) a)), []) := by
  rw [call_of F.made]
  have l := mul_gen F.toHasLaw (k + 1) (p := a) (n := n) (d := d.toNat) ha hn (by omega) hdB
  rw [Int.toNat_of_nonneg (by omega)] at l
  generalize call T (k + 3) = C at l
  unfold run Lib._law_made
  simp [MF.start, Ctr.d, bound, pk, cmp_str, l, payQ, Rat.mul_comm a]
theorem Sm_neg {q : Rat} (h : Sm q) : Sm (-q) := ⟨by rw [Rat.neg_num, Int.natAbs_neg]; exact h.num, by rw [Rat.neg_den]; exact h.den⟩
theorem made_ins (F : HasMade T) {n d c : Int} {b : Ctr} (ha : Sm a) (hn : n.natAbs < Big) (hd : 0 < d) (hdB : d.toNat < Big) (h0 : Sm (c : Rat)) (h1 : Sm ((c : Rat) - a)) (h2 : Sm (((c : Rat) - a) * mkRat n d.toNat)) :
    call T (k + 4) (Str.ofString "_law_made") [] [(Ctr.insured n d c b).d, fr a] = .ok (.v (fr (payQ (.insured n d c b) a)), []) := by
  rw [call_of F.made]
  have la := add_ok' F.toHasLaw (k + 1) h0 (Sm_neg ha)
  rw [← Rat.sub_eq_add_neg] at la
  have lm := mul_gen F.toHasLaw (k + 1) (p := (c : Rat) - a) (n := n) (d := d.toNat) h1 hn (by omega) hdB
  rw [Int.toNat_of_nonneg (by omega)] at lm
  have lp := add_ok' F.toHasLaw (k + 1) ha h2
  have fn : D.tup [.int (-a.num), .int a.den] = fr (-a) := by unfold fr; rw [Rat.neg_num, Rat.neg_den]
  generalize call T (k + 3) = C at la lm lp
  unfold run Lib._law_made
  have key : payQ (.insured n d c b) a = if ((c : Rat) - a).num < 0 then a else a + ((c : Rat) - a) * mkRat n d.toNat := by
    have hx : (((c : Rat) - a).num < 0) ↔ ((c : Rat) - a < 0) := by
      rw [← Rat.not_le, ← Rat.num_nonneg]; omega
    simp only [payQ]
    by_cases h : ((c : Rat) - a) < 0
    · rw [if_pos (hx.mpr h), if_neg (by grind)]; grind
    · rw [if_neg (fun q => h (hx.mp q))]
      by_cases g : 0 < (c : Rat) - a
      · rw [if_pos g, Rat.mul_comm (mkRat _ _)]
      · rw [if_neg g, show (c : Rat) - a = 0 by grind]; grind
  rw [key]
  generalize (c : Rat) - a = g at *
  have i0 : item (fr a) (.int 0) = .ok (.int a.num) := rfl
  have i1 : item (fr a) (.int 1) = .ok (.int a.den) := rfl
  have i2 : item (fr g) (.int 0) = .ok (.int g.num) := rfl
  by_cases h : g.num < 0 <;> simp [MF.start, Ctr.d, bound, pk, fr_int, fn, cmp_str, i0, i1, i2, la, lm, lp, h]
end
end MP

end
section
set_option linter.all false
/-! The law's joined rows are joinQ. -/
namespace MP
def lawJ (rs : List (Rat × Rat)) : List (Rat × Rat) := (ordL [] (rs.map (·.1))).map fun a => (a, sumQ 0 ((rs.filter fun r => decide (r.1 = a)).map (·.2)))
theorem massA_sum (a : Rat) : ∀ (rs : List (Rat × Rat)) (s : Rat), massA s a rs = sumQ s ((rs.filter fun r => decide (r.1 = a)).map (·.2))
  | [], s => rfl
  | r :: rs, s => by
    unfold massA
    by_cases h : r.1 = a
    · rw [if_pos h, massA_sum a rs, List.filter_cons_of_pos (by simpa using h)]; rfl
    · rw [if_neg h, massA_sum a rs, List.filter_cons_of_neg (by simpa using h)]
theorem lawJ_eq (rs : List (Rat × Rat)) : lawJ rs = joinQ rs := by
  have e : ordL [] (rs.map (·.1)) = ordQ ((joinA [] rs).map (·.1)) :=
    IsOrd.uniq (ordL_sorted _ .nil) ordQ_is.asc fun y => by rw [mem_ordL, ordQ_is.mem, mem_joinA]; simp
  unfold lawJ joinQ
  rw [e]
  exact List.map_congr_left fun a _ => by rw [massA_sum]
end MP

end
section
set_option linter.all false
set_option maxHeartbeats 1000000
/-! A comprehension with a filter and a head of its own. -/
namespace MP
theorem loopC_fmap {α : Type} {t : D → En → Out (Option D × En)} {f g : α → D} {p : α → Bool} {I : En → Prop} : ∀ (xs : List α) (env : En) (acc : List D), I env → (∀ x ∈ xs, ∀ env, I env → ∃ env', t (f x) env = .ok (if p x then some (g x) else none, env') ∧ I env') →
    ∃ env', loopC t (xs.map f) env acc = .ok (acc ++ (xs.filter p).map g, env') ∧ I env'
  | [], env, acc, h, _ => ⟨env, by simp, h⟩
  | x :: xs, env, acc, h, ht => by
    obtain ⟨e1, h1, h2⟩ := ht x (by simp) env h
    cases hp : p x with
    | true =>
      obtain ⟨e2, h3, h4⟩ := loopC_fmap xs e1 (acc ++ [g x]) h2 fun y hy => ht y (by simp [hy])
      refine ⟨e2, ?_, h4⟩
      rw [List.map_cons, loopC_cons, h1, hp]
      simp only [bind_ok', if_pos]
      rw [h3]
      simp [hp]
    | false =>
      obtain ⟨e2, h3, h4⟩ := loopC_fmap xs e1 acc h2 fun y hy => ht y (by simp [hy])
      refine ⟨e2, ?_, h4⟩
      rw [List.map_cons, loopC_cons, h1, hp]
      simp [h3, hp]
end MP

end
section
set_option linter.all false
set_option maxRecDepth 100000
set_option maxHeartbeats 2000000
/-! What a contract is: the law's shape, the program's. -/
namespace MP
open PySem (Str)
@[simp] theorem bound_z (d : D) (r : En) : bound (.fz d :: r) 0 = true := id rfl
@[simp] theorem bound_zo (d : List D) (r : En) : bound (.ow d :: r) 0 = true := id rfl
@[simp] theorem bound_s (s : Sl) (r : En) (i : Nat) : bound (s :: r) (i + 1) = bound r i := id rfl
@[simp] theorem pk_z (d : D) (r : En) : pk (.fz d :: r) 0 = .ok d := id rfl
@[simp] theorem pk_zo (d : List D) (r : En) : pk (.ow d :: r) 0 = .ok (.lst d) := id rfl
@[simp] theorem pk_s (s : Sl) (r : En) (i : Nat) : pk (s :: r) (i + 1) = pk r i := id rfl
@[simp] theorem ity_tup (ds : List D) : isTy (.tup ds) .tuple = true := id rfl
@[simp] theorem ity_str (x : Str) : isTy (.str x) .str = true := id rfl
@[simp] theorem ity_int (x : Int) : isTy (.int x) .int = true := id rfl
@[simp] theorem ity_intb (x : Int) : isTy (.int x) .bool = false := id rfl
@[simp] theorem ity_bl (x : Bool) : isTy (.bl x) .int = true := id rfl
@[simp] theorem ity_blb (x : Bool) : isTy (.bl x) .bool = true := id rfl
@[simp] theorem tyOk_tup (ds : List D) : tyOk (.tup ds) = true := id rfl
@[simp] theorem tyOk_str (ds : Str) : tyOk (.str ds) = true := id rfl
@[simp] theorem bi_len_tup (ds : List D) : bi1 .len [.tup ds] = .ok (.v (.int ds.length)) := id rfl
@[simp] theorem bi_len_lst (ds : List D) : bi1 .len [.lst ds] = .ok (.v (.int ds.length)) := id rfl
@[simp] theorem blen_tup (ds : List D) : blen (.tup ds) = .ok (.v (.int ds.length)) := id rfl
@[simp] theorem blen_lst (ds : List D) : blen (.lst ds) = .ok (.v (.int ds.length)) := id rfl
@[simp] theorem blen_frz (ds : List Int) : blen (.frz ds) = .ok (.v (.int ds.length)) := id rfl
@[simp] theorem bi_int_int (i : Int) : bi1 .int [.int i] = .ok (.v (.int i)) := id rfl
@[simp] theorem bi_list_lst (ds : List D) : bi1 .list [.lst ds] = .ok (.o ds) := id rfl
@[simp] theorem bi_list_tup (ds : List D) : bi1 .list [.tup ds] = .ok (.o ds) := id rfl
@[simp] theorem bi_tuple_lst (ds : List D) : bi1 .tuple [.lst ds] = .ok (.v (.tup ds)) := id rfl
@[simp] theorem bi_tuple_tup (ds : List D) : bi1 .tuple [.tup ds] = .ok (.v (.tup ds)) := id rfl
@[simp] theorem bi_max (i j : Int) : bi1 .max2 [.int i, .int j] = .ok (.v (.int (if j > i then j else i))) := id rfl
@[simp] theorem bi_min (i j : Int) : bi1 .min2 [.int i, .int j] = .ok (.v (.int (if j < i then j else i))) := id rfl
@[simp] theorem bi_abs (i : Int) : bi1 .abs [.int i] = .ok (.v (.int (if i < 0 then -i else i))) := id rfl
@[simp] theorem is_lst (ds : List D) : cmp2 .is_ (.lst ds) .non = .ok false := id rfl
@[simp] theorem is_tup (ds : List D) : cmp2 .is_ (.tup ds) .non = .ok false := id rfl
@[simp] theorem is_int (i : Int) : cmp2 .is_ (.int i) .non = .ok false := id rfl
@[simp] theorem is_non : cmp2 .is_ .non .non = .ok true := id rfl
@[simp] theorem isnot_lst (ds : List D) : cmp2 .isnot (.lst ds) .non = .ok true := id rfl
@[simp] theorem isnot_tup (ds : List D) : cmp2 .isnot (.tup ds) .non = .ok true := id rfl
@[simp] theorem isnot_int (i : Int) : cmp2 .isnot (.int i) .non = .ok true := id rfl
@[simp] theorem isnot_non : cmp2 .isnot .non .non = .ok false := id rfl
/-! plain data -/
theorem sh_mono1 : (∀ (n : Nat) (d : D), sh n d = true → sh (n + 1) d = true) := by
  intro n
  induction n with
  | zero =>
    intro d h
    cases d <;> simp_all [sh]
  | succ n ih =>
    have hs : ∀ ds, shs n ds = true → shs (n + 1) ds = true := by
      intro ds
      induction ds with
      | nil => intro _; rfl
      | cons d ds ih2 =>
        intro h
        rw [shs, Bool.and_eq_true] at h ⊢
        exact ⟨ih d h.1, ih2 h.2⟩
    intro d h
    cases d <;> simp_all [sh]
theorem sh_mono {n m : Nat} (hl : n ≤ m) {d : D} (h : sh n d = true) : sh m d = true := by
  induction hl with
  | refl => exact h
  | step _ ih => exact sh_mono1 _ _ ih
theorem shs_all {n : Nat} : ∀ {ds : List D}, shs n ds = true ↔ ∀ d ∈ ds, sh n d = true
  | [] => by simp [shs]
  | d :: ds => by rw [shs, Bool.and_eq_true, shs_all (ds := ds)]; simp
theorem sh_tup {n : Nat} {ds : List D} (h : sh n (.tup ds) = true) : ∀ d ∈ ds, sh n d = true := by
  cases n with
  | zero => simp [sh] at h
  | succ n => rw [sh] at h; exact fun d hd => sh_mono1 _ _ (shs_all.mp h d hd)
theorem sh_ty {n : Nat} {d : D} (h : sh n d = true) : tyOk d = true := by
  cases d <;> first | rfl | (cases n <;> simp [sh] at h)
theorem cmp_eq {a b : D} (ha : sh 60 a = true) (hb : sh 60 b = true) : cmp2 .eq a b = .ok (dq a b) := by
  show (if (sh 60 a && sh 60 b) = true then _ else _) = _
  rw [ha, hb]; rfl
theorem cmp_ne {a b : D} (ha : sh 60 a = true) (hb : sh 60 b = true) : cmp2 .ne a b = .ok (!dq a b) := by
  show (if (sh 60 a && sh 60 b) = true then _ else _) = _
  rw [ha, hb]; rfl
theorem forL_all {b : D → En → Out (Fl × En)} {p : D → Bool} {r : R} {I : En → Prop} : ∀ {ds : List D} {env : En}, I env → (∀ d ∈ ds, ∀ env, I env → ∃ env', b d env = .ok (if p d then .nx else .rt r, env') ∧ I env') →
    ∃ env', forL b ds env = .ok (if ds.all p then .nx else .rt r, env') ∧ I env'
  | [], env, h, _ => ⟨env, rfl, h⟩
  | d :: ds, env, h, hb => by
    obtain ⟨e1, h1, h2⟩ := hb d (by simp) env h
    rw [forL_cons, h1]
    cases hp : p d with
    | false => exact ⟨e1, by simp [hp], h2⟩
    | true =>
      obtain ⟨e2, h3, h4⟩ := forL_all (ds := ds) h2 fun x hx => hb x (by simp [hx])
      refine ⟨e2, ?_, h4⟩
      rw [List.all_cons, hp, Bool.true_and, bind_ok', if_pos rfl]
      exact h3
/-! the parts of a contract -/
def wholeB (v : D) (lo hi : Int) : Bool := match v with | .int i => decide (lo ≤ i) && decide (i ≤ hi) | _ => false
def leB : D → D → Bool
  | .int i, .int j => decide (i ≤ j)
  | _, _ => false
def rowOk : D → Bool
  | .tup [w, _] => wholeB w 1 12
  | _ => false
def rowPart : D → D
  | .tup [_, p] => p
  | d => d
theorem whole_is {v : D} {lo hi : Int} (h : wholeB v lo hi = true) : ∃ i, v = .int i := by
  unfold wholeB at h
  split at h
  · exact ⟨_, rfl⟩
  · cases h
theorem rowOk_is {d : D} (h : rowOk d = true) : ∃ x y, d = .tup [x, y] := by
  unfold rowOk at h
  split at h
  · exact ⟨_, _, rfl⟩
  · cases h
def partsW (w : Str) (r : List D) : Option (List D) :=
  if w = sDraw then (match r with | [.tup rows] => if (decide (1 ≤ rows.length) && decide (rows.length ≤ 4) && rows.all rowOk) = true then some (rows.map rowPart) else none | _ => none)
  else if w = sSure then (match r with | [a] => if wholeB a (-1000) 1000 = true then some [] else none | _ => none)
  else if w = sCap ∨ w = sFloor ∨ w = sMore then (match r with | [a, c] => if wholeB a (-1000) 1000 = true then some [c] else none | _ => none)
  else if w = sShare then (match r with | [n, d, c] => if (wholeB n 0 12 && wholeB d 1 12) = true then some [c] else none | _ => none)
  else if w = sIns then (match r with | [n, d, b, c] => if (wholeB n 0 12 && wholeB d 1 12 && (leB n d && wholeB b (-1000) 1000)) = true then some [c] else none | _ => none)
  else none
def parts : D → Option (List D)
  | .tup (.str w :: r) => partsW w r
  | _ => none
def optD : Option (List D) → R
  | none => .v .non
  | some ds => .o ds
structure HasShape (T : Tab) : Prop where
  whole : T (Str.ofString "_law_is_whole") = some Lib._law_is_whole
  shape : T (Str.ofString "_law_shape") = some Lib._law_shape
  ends : T (Str.ofString "_law_ends") = some Lib._law_ends
  isc : T (Str.ofString "_law_is_contract") = some Lib._law_is_contract
theorem whole_ok {T : Tab} {f : Str} (h : T f = some Lib._law_is_whole) (k : Nat) {v : D} (lo hi : Int) (hv : sh 60 v = true) : call T (k + 1) f [] [v, .int lo, .int hi] = .ok (.v (.bl (wholeB v lo hi)), []) := by
  rw [call_of h]
  generalize call T k = C
  unfold run Lib._law_is_whole
  cases v with
  | int i => by_cases h1 : lo ≤ i <;> simp [MF.start, tyOk, isTy, wholeB, h1]
  | bl b => simp [MF.start, tyOk, isTy, wholeB]
  | frz ns => simp [sh] at hv
  | fn x => simp [sh] at hv
  | dic kvs => simp [sh] at hv
  | _ => simp [MF.start, tyOk, isTy, wholeB]
theorem str_ne {x y : Str} (h : ¬ x = y) : (x == y) = false := by
  cases e : x == y with
  | false => rfl
  | true => exact absurd (eq_of_beq e) h
theorem dq_str (x y : Str) : dq (.str x) (.str y) = (x == y) := by simp [dq]
theorem in_four {x a b c d : Str} (hx : strOk x = true) (ha : strOk a = true) (hb : strOk b = true) (hc : strOk c = true) (hd : strOk d = true) : cmp2 .in_ (.str x) (.lst [.str a, .str b, .str c, .str d]) = .ok (a == x || (b == x || (c == x || d == x))) := by
  show (if (sh 60 (.str x) && shs 60 [.str a, .str b, .str c, .str d]) = true then _ else _) = _
  have h1 : sh 60 (.str x) = true := hx
  have h2 : shs 60 [.str a, .str b, .str c, .str d] = true := by simp [shs, sh, ha, hb, hc, hd]
  rw [h1, h2]
  simp [isIn, dq]
theorem ne_comm' {x y : Str} (h : ¬ x = y) : (y == x) = false := str_ne fun e => h e.symm
@[simp] theorem sl2a (x y : D) : slice (.tup [x, y]) (some 2) none = .ok (.v (.tup [])) := id rfl
@[simp] theorem sl2b (x y z : D) : slice (.tup [x, y, z]) (some 2) none = .ok (.v (.tup [z])) := id rfl
theorem shape_ok {T : Tab} (F : HasShape T) (k : Nat) {v : D} (hv : sh 60 v = true) : call T (k + 2) (Str.ofString "_law_shape") [] [v] = .ok (optD (parts v), []) := by
  rw [call_of F.shape]
  have lw := fun (v : D) lo hi hv => whole_ok F.whole k (v := v) lo hi hv
  generalize call T (k + 1) = C at lw
  have ty := sh_ty hv
  have nottup : isTy v .tuple = false → parts v = none → run C Lib._law_shape [] [v] = .ok (optD (parts v), []) := by
    intro h h2
    rw [h2]
    unfold run Lib._law_shape
    simp [MF.start, ty, h, optD]
  cases v with
  | tup ds =>
    cases ds with
    | nil =>
      unfold run Lib._law_shape
      simp [MF.start, ty, isTy, optD, cmp2, dq, dqs, sh, parts, shs]
    | cons x r =>
      have hx := sh_tup hv x (by simp)
      have tx := sh_ty hx
      cases hw : isTy x .str with
      | false =>
        have : parts (.tup (x :: r)) = none := by
          cases x <;> first | rfl | simp [isTy] at hw
        rw [this]
        unfold run Lib._law_shape
        have e0 : cmp2 .eq (.tup (x :: r)) (.tup []) = .ok false := by rw [cmp_eq hv (by rfl)]; simp [dq, dqs]
        simp [MF.start, optD, e0, tx, hw]
      | true =>
        cases x with
        | str w =>
          have hw' : strOk w = true := by simpa [sh] using hx
          have e0 : cmp2 .eq (.tup (.str w :: r)) (.tup []) = .ok false := by rw [cmp_eq hv (by rfl)]; simp [dq, dqs]
          have hr : ∀ d ∈ r, sh 60 d = true := fun d hd => sh_tup hv d (by simp [hd])
          show _ = Out.ok (optD (partsW w r), [])
          by_cases h1 : w = sDraw
          · subst h1
            match r, hr with
            | [], _ =>
              unfold run Lib._law_shape
              simp [MF.start, e0, cmp_str, blen, partsW, optD]
            | x :: y :: t, _ =>
              have hl : ((t.length : Int) + 1 + 1 + 1 == 2) = false := by rw [beq_eq_false_iff_ne]; omega
              have ep : partsW sDraw (x :: y :: t) = none := by unfold partsW; rw [if_pos rfl]; cases x <;> rfl
              rw [ep]
              unfold run Lib._law_shape
              simp [MF.start, e0, cmp_str, blen, hl, optD]
            | [x], hr =>
              have hx1 := hr x (by simp)
              have tx1 := sh_ty hx1
              cases hw1 : isTy x .tuple with
              | false =>
                have : partsW sDraw [x] = none := by
                  unfold partsW; rw [if_pos rfl]
                  cases x <;> first | rfl | simp at hw1
                rw [this]
                unfold run Lib._law_shape
                simp [MF.start, e0, cmp_str, blen, tx1, hw1, optD]
              | true =>
                cases x with
                | tup rows =>
                  have hrows : ∀ d ∈ rows, sh 60 d = true := fun d hd => sh_tup hx1 d hd
                  obtain ⟨e1, h1, s3, hs3, rfl⟩ := forL_all (b := turn C (.nm 3) (.cons (.iff (.or (.not (.v (.isi [.tuple] (.var 3)))) (.or (.v (.cmp .ne (.lenv 3) (.con (.int 2)))) (.not (.v (.call (Str.ofString "_law_is_whole") (.cons (.ixv 3 (.con (.int 0))) (.cons (.con (.int 1)) (.cons (.con (.int 12)) .nil)))))))) (.cons (.ret (.con .non)) .nil) .nil) .nil))
                    (p := rowOk) (r := .v .non) (I := fun env => ∃ s, (s = .un ∨ ∃ d, s = .fz d) ∧ env = [.fz (.tup [.str sDraw, .tup rows]), .fz (.str sDraw), .fz (.int 2), s]) (ds := rows) (env := [.fz (.tup [.str sDraw, .tup rows]), .fz (.str sDraw), .fz (.int 2), .un]) ⟨_, .inl rfl, rfl⟩ (by
                      rintro d hd env ⟨s, _, rfl⟩
                      have hd1 := hrows d hd
                      refine ⟨[.fz (.tup [.str sDraw, .tup rows]), .fz (.str sDraw), .fz (.int 2), .fz d], ?_, ⟨_, .inr ⟨_, rfl⟩, rfl⟩⟩
                      have td := sh_ty hd1
                      cases d with
                      | tup ds =>
                        match ds, hd1 with
                        | [], _ => simp [rowOk, blen]
                        | [x], _ => simp [rowOk, blen]
                        | [x, y], hd1 =>
                          have l1 := lw x 1 12 (sh_tup hd1 x (by simp))
                          cases hh : wholeB x 1 12 <;> simp [rowOk, blen, l1, hh]
                        | x :: y :: z :: t, _ =>
                          have hl : ((t.length : Int) + 1 + 1 + 1 == 2) = false := by rw [beq_eq_false_iff_ne]; omega
                          simp [rowOk, blen, hl]
                      | _ => simp [rowOk, td, isTy])
                  have ep : partsW sDraw [.tup rows] = if (decide (1 ≤ rows.length) && decide (rows.length ≤ 4) && rows.all rowOk) = true then some (rows.map rowPart) else none := by unfold partsW; rw [if_pos rfl]
                  rw [ep]
                  have itm : item (.tup [.str sDraw, .tup rows]) (.int 1) = .ok (.tup rows) := item1 _ _ _
                  have e00 : cmp2 .eq (.tup [.str sDraw, .tup rows]) (.tup []) = .ok false := e0
                  by_cases c1 : 1 ≤ rows.length
                  · by_cases c2 : rows.length ≤ 4
                    · have i1 : (1 : Int) ≤ rows.length := by omega
                      have i2 : (rows.length : Int) ≤ 4 := by omega
                      cases ha : rows.all rowOk with
                      | false =>
                        rw [ha] at h1
                        unfold run Lib._law_shape
                        simp [MF.start, e00, cmp_str, i1, i2, h1, optD]
                      | true =>
                        rw [ha] at h1
                        rw [if_pos (by simp [c1, c2])]
                        have n3 : noOwn [Sl.fz (.tup [.str sDraw, .tup rows]), .fz (.str sDraw), .fz (.int 2), s3] [3] = true := by
                          rcases hs3 with rfl | ⟨d, rfl⟩ <;> rfl
                        obtain ⟨e2, h2, u3, rfl⟩ := loopC_map (t := turnC C (.nm 3) .none (.ixv 3 (.con (.int 1))) [3]) (f := fun d => d) (g := rowPart)
                          (I := fun env => ∃ s, env = [.fz (.tup [.str sDraw, .tup rows]), .fz (.str sDraw), .fz (.int 2), s]) rows [.fz (.tup [.str sDraw, .tup rows]), .fz (.str sDraw), .fz (.int 2), s3] [] ⟨_, rfl⟩ (by
                            rintro d hd env ⟨s, rfl⟩
                            refine ⟨[.fz (.tup [.str sDraw, .tup rows]), .fz (.str sDraw), .fz (.int 2), .fz d], ?_, ⟨_, rfl⟩⟩
                            have hd2 := List.all_eq_true.mp ha d hd
                            obtain ⟨x, y, rfl⟩ := rowOk_is hd2
                            simp [rowPart])
                        rw [List.map_id'] at h2
                        unfold run Lib._law_shape
                        simp [MF.start, e00, cmp_str, i1, i2, h1, n3, h2, optD]
                    · have i1 : (1 : Int) ≤ rows.length := by omega
                      have i2 : ¬ (rows.length : Int) ≤ 4 := by omega
                      rw [if_neg (by simp [c2])]
                      unfold run Lib._law_shape
                      simp [MF.start, e00, cmp_str, i1, i2, optD]
                  · have i1 : ¬ (1 : Int) ≤ rows.length := by omega
                    rw [if_neg (by simp [c1])]
                    unfold run Lib._law_shape
                    simp [MF.start, e00, cmp_str, i1, optD]
                | _ => simp [isTy] at hw1
          · have d1 := str_ne h1
            by_cases hin : w = sSure ∨ w = sCap ∨ w = sFloor ∨ w = sMore
            · have hI : cmp2 .in_ (.str w) (.lst [.str sSure, .str sCap, .str sFloor, .str sMore]) = .ok true := by
                rw [in_four hw' (by simp) (by simp) (by simp) (by simp)]
                rcases hin with rfl | rfl | rfl | rfl <;> simp
              by_cases h2 : w = sSure
              · subst h2
                match r, hr with
                | [], _ =>
                  unfold run Lib._law_shape
                  simp [MF.start, e0, cmp_str, hI, partsW, optD]
                | x :: y :: t, _ =>
                  have hl : ((t.length : Int) + 1 + 1 + 1 == 2) = false := by rw [beq_eq_false_iff_ne]; omega
                  have ep : partsW sSure (x :: y :: t) = none := rfl
                  rw [ep]
                  unfold run Lib._law_shape
                  simp [MF.start, e0, cmp_str, hl, optD, hI]
                | [x], hr =>
                  have l1 := lw x (-1000) 1000 (hr x (by simp))
                  have ep : partsW sSure [x] = if wholeB x (-1000) 1000 = true then some [] else none := rfl
                  rw [ep]
                  unfold run Lib._law_shape
                  cases hh : wholeB x (-1000) 1000 <;> simp [MF.start, e0, cmp_str, l1, hh, optD, hI]
              · have d2 := str_ne h2
                have hin3 : w = sCap ∨ w = sFloor ∨ w = sMore := by rcases hin with h | h; exact absurd h h2; exact h
                have epg : ∀ r, partsW w r = (match r with | [a, c] => if wholeB a (-1000) 1000 = true then some [c] else none | _ => none) := by
                  intro r; unfold partsW; rw [if_neg h1, if_neg h2, if_pos hin3]
                match r, hr with
                | [], _ =>
                  rw [epg]
                  unfold run Lib._law_shape
                  simp [MF.start, e0, cmp_str, hI, optD, hw', d1, d2]
                | [x], _ =>
                  rw [epg]
                  unfold run Lib._law_shape
                  simp [MF.start, e0, cmp_str, hI, optD, hw', d1, d2]
                | x :: y :: z :: t, _ =>
                  have hl : ((t.length : Int) + 1 + 1 + 1 + 1 == 3) = false := by rw [beq_eq_false_iff_ne]; omega
                  rw [epg]
                  unfold run Lib._law_shape
                  simp [MF.start, e0, cmp_str, hl, optD, hI, hw', d1, d2]
                | [x, y], hr =>
                  have l1 := lw x (-1000) 1000 (hr x (by simp))
                  rw [epg]
                  unfold run Lib._law_shape
                  cases hh : wholeB x (-1000) 1000 <;> simp [MF.start, e0, cmp_str, l1, hh, optD, hI, hw', d1, d2]
            · have n1 : ¬ w = sSure := fun e => hin (.inl e)
              have n2 : ¬ w = sCap := fun e => hin (.inr (.inl e))
              have n3 : ¬ w = sFloor := fun e => hin (.inr (.inr (.inl e)))
              have n4 : ¬ w = sMore := fun e => hin (.inr (.inr (.inr e)))
              have hI : cmp2 .in_ (.str w) (.lst [.str sSure, .str sCap, .str sFloor, .str sMore]) = .ok false := by
                rw [in_four hw' (by simp) (by simp) (by simp) (by simp), ne_comm' n1, ne_comm' n2, ne_comm' n3, ne_comm' n4]; rfl
              by_cases h3 : w = sShare
              · subst h3
                have epg : ∀ r, partsW sShare r = (match r with | [n, d, c] => if (wholeB n 0 12 && wholeB d 1 12) = true then some [c] else none | _ => none) := fun r => rfl
                rw [epg]
                have lk : look [(sShare, 4), (sIns, 5)] sShare = some 4 := rfl
                match r, hr with
                | [], _ =>
                  unfold run Lib._law_shape
                  simp [MF.start, e0, cmp_str, hI, optD, lk]
                | [x], _ =>
                  unfold run Lib._law_shape
                  simp [MF.start, e0, cmp_str, hI, optD, lk]
                | [x, y], _ =>
                  unfold run Lib._law_shape
                  simp [MF.start, e0, cmp_str, hI, optD, lk]
                | x :: y :: z :: u :: t, _ =>
                  have hl : ((t.length : Int) + 1 + 1 + 1 + 1 + 1 == 4) = false := by rw [beq_eq_false_iff_ne]; omega
                  unfold run Lib._law_shape
                  simp [MF.start, e0, cmp_str, hI, optD, lk, hl]
                | [x, y, z], hr =>
                  have l1 := lw x 0 12 (hr x (by simp))
                  have l2 := lw y 1 12 (hr y (by simp))
                  unfold run Lib._law_shape
                  cases hh : wholeB x 0 12 <;> cases hh2 : wholeB y 1 12 <;> simp [MF.start, e0, cmp_str, hI, optD, lk, l1, l2, hh, hh2]
              · by_cases h4 : w = sIns
                · subst h4
                  have epg : ∀ r, partsW sIns r = (match r with | [n, d, b, c] => if (wholeB n 0 12 && wholeB d 1 12 && (leB n d && wholeB b (-1000) 1000)) = true then some [c] else none | _ => none) := fun r => rfl
                  rw [epg]
                  have lk : look [(sShare, 4), (sIns, 5)] sIns = some 5 := rfl
                  match r, hr with
                  | [], _ =>
                    unfold run Lib._law_shape
                    simp [MF.start, e0, cmp_str, hI, optD, lk]
                  | [x], _ =>
                    unfold run Lib._law_shape
                    simp [MF.start, e0, cmp_str, hI, optD, lk]
                  | [x, y], _ =>
                    unfold run Lib._law_shape
                    simp [MF.start, e0, cmp_str, hI, optD, lk]
                  | [x, y, z], _ =>
                    unfold run Lib._law_shape
                    simp [MF.start, e0, cmp_str, hI, optD, lk]
                  | x :: y :: z :: u :: v :: t, _ =>
                    have hl : ((t.length : Int) + 1 + 1 + 1 + 1 + 1 + 1 == 5) = false := by rw [beq_eq_false_iff_ne]; omega
                    unfold run Lib._law_shape
                    simp [MF.start, e0, cmp_str, hI, optD, lk, hl]
                  | [x, y, z, u], hr =>
                    have l1 := lw x 0 12 (hr x (by simp))
                    have l2 := lw y 1 12 (hr y (by simp))
                    have l3 := lw z (-1000) 1000 (hr z (by simp))
                    unfold run Lib._law_shape
                    cases hh : wholeB x 0 12 with
                    | false => simp [MF.start, e0, cmp_str, hI, optD, lk, l1, l2, l3, hh]
                    | true => cases hh2 : wholeB y 1 12 with
                      | false => simp [MF.start, e0, cmp_str, hI, optD, lk, l1, l2, l3, hh, hh2]
                      | true =>
                        obtain ⟨i, rfl⟩ := whole_is hh
                        obtain ⟨j, rfl⟩ := whole_is hh2
                        cases hh3 : wholeB z (-1000) 1000 <;> by_cases hij : i ≤ j <;> simp [MF.start, e0, cmp_str, hI, optD, lk, l1, l2, l3, hh, hh2, hh3, leB, hij]
                · have epg : partsW w r = none := by
                    unfold partsW; rw [if_neg h1, if_neg n1, if_neg (by rintro (h | h | h); exact n2 h; exact n3 h; exact n4 h), if_neg h3, if_neg h4]
                  have lk : look [(sShare, 4), (sIns, 5)] w = none := by
                    unfold look; rw [if_neg (Ne.symm h3)]; unfold look; rw [if_neg (Ne.symm h4)]; rfl
                  have hl : ((r.length : Int) + 1 == 0) = false := by rw [beq_eq_false_iff_ne]; omega
                  rw [epg]
                  unfold run Lib._law_shape
                  simp [MF.start, e0, cmp_str, hw', d1, hI, optD, lk, hl]
        | _ => simp [isTy] at hw
  | _ => exact nottup rfl rfl
end MP

end
section
set_option linter.all false
set_option maxRecDepth 100000
set_option maxHeartbeats 2000000
/-! How many ends: the law's count. -/
namespace MP
open PySem (Str)
theorem parts_sh {n : Nat} {v : D} {ps : List D} (hv : sh n v = true) (hp : parts v = some ps) : ∀ p ∈ ps, sh n p = true := by
  cases v with
  | tup ds =>
    cases ds with
    | nil => cases hp
    | cons x r =>
      cases x with
      | str w =>
        have hr : ∀ d ∈ r, sh n d = true := fun d hd => sh_tup hv d (by simp [hd])
        have hp : partsW w r = some ps := hp
        unfold partsW at hp
        split at hp
        · split at hp
          · split at hp
            · rename_i hc
              cases hp
              intro p hpm
              obtain ⟨d, hd, rfl⟩ := List.mem_map.mp hpm
              have hrow := sh_tup (hr (.tup _) (by simp)) d hd
              simp only [Bool.and_eq_true] at hc
              obtain ⟨x, y, rfl⟩ := rowOk_is (List.all_eq_true.mp hc.2 d hd)
              exact sh_tup hrow y (by simp)
            · cases hp
          · cases hp
        · repeat' (split at hp)
          all_goals first
            | (cases hp; done)
            | (cases hp; intro p hpm; first | (simp at hpm; subst hpm; exact hr _ (by simp)) | (simp at hpm))
      | _ => cases hp
  | _ => cases hp
def en : Nat → D → Nat
  | 0, _ => 1000
  | d + 1, v => match parts v with
    | none => 1000
    | some [] => 1
    | some (p :: ps) => ((p :: ps).map (en d)).sum
theorem ends_ok {T : Tab} (F : HasShape T) (k : Nat) : ∀ (d : Nat) {v : D}, sh 59 v = true → call T (k + 3 + d) (Str.ofString "_law_ends") [] [v, .int d] = .ok (.v (.int (en d v)), [])
  | 0, v, hv => by
    rw [show k + 3 + 0 = (k + 2) + 1 from rfl, call_of F.ends]
    have ls := shape_ok F k (sh_mono (by decide) hv : sh 60 v = true)
    generalize call T (k + 2) = C at ls
    unfold run Lib._law_ends
    cases hp : parts v with
    | none => rw [hp] at ls; simp [MF.start, ls, optD, en]
    | some ps => rw [hp] at ls; simp [MF.start, ls, optD, en]
  | d + 1, v, hv => by
    rw [show k + 3 + (d + 1) = (k + 3 + d) + 1 from rfl, call_of F.ends]
    have ls := shape_ok F (k + 1 + d) (sh_mono (by decide) hv : sh 60 v = true)
    rw [show k + 1 + d + 2 = k + 3 + d from by omega] at ls
    have ih := fun (p : D) (hp : sh 59 p = true) => ends_ok F k d hp
    generalize call T (k + 3 + d) = C at ls ih
    have hd0 : (((d + 1 : Nat) : Int) == 0) = false := by rw [beq_eq_false_iff_ne]; omega
    have hd1 : ((d + 1 : Nat) : Int) - 1 = (d : Int) := by omega
    unfold run Lib._law_ends
    generalize hdd : ((d + 1 : Nat) : Int) = dd at hd0 hd1
    cases hp : parts v with
    | none => rw [hp] at ls; simp [MF.start, ls, optD, en, hp]
    | some ps =>
      rw [hp] at ls
      have hps := parts_sh hv hp
      have h60 : sh 60 (.lst ps) = true := shs_all.mpr hps
      have e0 : cmp2 .eq (.lst ps) (.lst []) = .ok (dq (.lst ps) (.lst [])) := cmp_eq h60 rfl
      cases ps with
      | nil => 
        have q : dq (.lst []) (.lst []) = true := by simp [dq, dqs]
        rw [q] at e0
        simp [MF.start, ls, optD, e0, en, hp, hd0]
      | cons p ps =>
        have q : dq (.lst (p :: ps)) (.lst []) = false := by simp [dq, dqs]
        rw [q] at e0
        have heq : en (d + 1) v = ((p :: ps).map (en d)).sum := by simp [en, hp]
        rw [heq]
        generalize p :: ps = qs at ls hps e0 ⊢
        obtain ⟨e2, h2, u3, rfl⟩ := loopC_map (t := turnC C (.nm 3) .none (.bi .int (.cons (.call (Str.ofString "_law_ends") (.cons (.var 3) (.cons (.bin .sub (.var 1) (.con (.int 1))) .nil))) .nil)) [3]) (f := fun d => d) (g := fun p => .int (en d p))
          (I := fun env => ∃ s, env = [.fz v, .fz (.int dd), .fz (.lst qs), s]) qs [.fz v, .fz (.int dd), .fz (.lst qs), .un] [] ⟨_, rfl⟩ (by
            rintro p hpm env ⟨s, rfl⟩
            refine ⟨[.fz v, .fz (.int dd), .fz (.lst qs), .fz p], ?_, ⟨_, rfl⟩⟩
            have l1 := ih p (hps p hpm)
            simp [hd1, l1])
        rw [List.map_id'] at h2
        have hm : (qs.map fun p => D.int (en d p)) = (qs.map fun p => ((en d p : Nat) : Int)).map D.int := by rw [List.map_map]; rfl
        rw [hm] at h2
        have hss : bi1 .sum [.lst ((qs.map fun p => ((en d p : Nat) : Int)).map D.int)] = .ok (.v (.int ((qs.map (en d)).sum : Nat))) := by
          unfold bi1
          dsimp only
          unfold bsum
          dsimp only
          rw [intsD_map]
          dsimp only
          congr 4
          clear h2 e0 hps ls hm
          induction qs with
          | nil => rfl
          | cons q qs ih => simp [ih]
        have n3 : noOwn [Sl.fz v, .fz (.int dd), .fz (.lst qs), .un] [3] = true := rfl
        generalize ((qs.map fun p => ((en d p : Nat) : Int)).map D.int) = out at h2 hss
        simp [MF.start, ls, optD, e0, en, hd0, h2, hss, n3]
end MP

end
section
set_option linter.all false
set_option maxRecDepth 100000
set_option maxHeartbeats 2000000
/-! The program's count. -/
namespace MP
open PySem (Str)
structure HasIs (T : Tab) : Prop where
  whole : T (Str.ofString "is_whole") = some Lib.is_whole
  amount : T (Str.ofString "is_amount") = some Lib.is_amount
  numbers : T (Str.ofString "are_numbers") = some Lib.are_numbers
  inner : T (Str.ofString "inner_values") = some Lib.inner_values
  count : T (Str.ofString "sure_count") = some Lib.sure_count
  has : T (Str.ofString "has_contract") = some Lib.has_contract
theorem isw_ok {T : Tab} (F : HasIs T) (k : Nat) {v : D} (lo hi : Int) (hv : sh 60 v = true) : call T (k + 1) (Str.ofString "is_whole") [] [v, .int lo, .int hi] = .ok (.v (.bl (wholeB v lo hi)), []) :=
  whole_ok (f := Str.ofString "is_whole") F.whole k lo hi hv
theorem amount_ok {T : Tab} (F : HasIs T) (k : Nat) {v : D} (hv : sh 60 v = true) : call T (k + 2) (Str.ofString "is_amount") [] [v] = .ok (.v (.bl (wholeB v (-1000) 1000)), []) := by
  rw [call_of F.amount]
  have l := isw_ok F k (-1000) 1000 hv
  generalize call T (k + 1) = C at l
  unfold run Lib.is_amount
  simp [MF.start, l]
def numB (w : Str) (r : List D) : Bool :=
  if w = sDraw then true
  else if w = sShare then (match r with | n :: d :: _ => wholeB n 0 12 && wholeB d 1 12 | _ => false)
  else if w = sIns then (match r with | n :: d :: b :: _ => wholeB n 0 12 && wholeB d 1 12 && (leB n d && wholeB b (-1000) 1000) | _ => false)
  else (match r with | a :: _ => wholeB a (-1000) 1000 | _ => false)
theorem in_fourT {x a b c d : Str} (hx : strOk x = true) (ha : strOk a = true) (hb : strOk b = true) (hc : strOk c = true) (hd : strOk d = true) : cmp2 .in_ (.str x) (.tup [.str a, .str b, .str c, .str d]) = .ok (a == x || (b == x || (c == x || d == x))) := by
  show (if (sh 0 (.str x) && shs 0 [.str a, .str b, .str c, .str d]) = true then _ else _) = _
  have h1 : sh 0 (.str x) = true := hx
  have h2 : shs 0 [.str a, .str b, .str c, .str d] = true := by simp [shs, sh, ha, hb, hc, hd]
  rw [h1, h2]
  simp [isIn, dq]
section
variable {T : Tab} (F : HasIs T) (k : Nat)
include F
theorem numbers_four {w : Str} (hw : w = sSure ∨ w = sCap ∨ w = sFloor ∨ w = sMore) {a : D} {r : List D} (ha : sh 60 a = true) : call T (k + 3) (Str.ofString "are_numbers") [] [.tup (.str w :: a :: r)] = .ok (.v (.bl (wholeB a (-1000) 1000)), []) := by
  have hw' : strOk w = true := by rcases hw with rfl | rfl | rfl | rfl <;> simp
  have hI : cmp2 .in_ (.str w) (.tup [.str sSure, .str sCap, .str sFloor, .str sMore]) = .ok true := by
    rw [in_fourT hw' (by simp) (by simp) (by simp) (by simp)]
    rcases hw with rfl | rfl | rfl | rfl <;> simp
  rw [call_of F.numbers]
  have l := amount_ok F k ha
  generalize call T (k + 2) = C at l
  unfold run Lib.are_numbers
  simp [MF.start, l, hI]
theorem numbers_draw {r : List D} : call T (k + 3) (Str.ofString "are_numbers") [] [.tup (.str sDraw :: r)] = .ok (.v (.bl true), []) := by
  have hI : cmp2 .in_ (.str sDraw) (.tup [.str sSure, .str sCap, .str sFloor, .str sMore]) = .ok false := by
    rw [in_fourT (by simp) (by simp) (by simp) (by simp) (by simp)]; simp
  rw [call_of F.numbers]
  generalize call T (k + 2) = C
  unfold run Lib.are_numbers
  simp [MF.start, hI, cmp_str]
theorem numbers_share {n d : D} {r : List D} (hn : sh 60 n = true) (hd : sh 60 d = true) : call T (k + 3) (Str.ofString "are_numbers") [] [.tup (.str sShare :: n :: d :: r)] = .ok (.v (.bl (wholeB n 0 12 && wholeB d 1 12)), []) := by
  have hI : cmp2 .in_ (.str sShare) (.tup [.str sSure, .str sCap, .str sFloor, .str sMore]) = .ok false := by
    rw [in_fourT (by simp) (by simp) (by simp) (by simp) (by simp)]; simp
  rw [call_of F.numbers]
  have l1 := isw_ok F (k + 1) 0 12 hn
  have l2 := isw_ok F (k + 1) 1 12 hd
  generalize call T (k + 2) = C at l1 l2
  unfold run Lib.are_numbers
  cases h1 : wholeB n 0 12 <;> cases h2 : wholeB d 1 12 <;> simp [MF.start, hI, cmp_str, l1, l2, h1, h2]
theorem numbers_ins {n d b : D} {r : List D} (hn : sh 60 n = true) (hd : sh 60 d = true) (hb : sh 60 b = true) : call T (k + 3) (Str.ofString "are_numbers") [] [.tup (.str sIns :: n :: d :: b :: r)] = .ok (.v (.bl (wholeB n 0 12 && wholeB d 1 12 && (leB n d && wholeB b (-1000) 1000))), []) := by
  have hI : cmp2 .in_ (.str sIns) (.tup [.str sSure, .str sCap, .str sFloor, .str sMore]) = .ok false := by
    rw [in_fourT (by simp) (by simp) (by simp) (by simp) (by simp)]; simp
  rw [call_of F.numbers]
  have l1 := isw_ok F (k + 1) 0 12 hn
  have l2 := isw_ok F (k + 1) 1 12 hd
  have l3 := amount_ok F k hb
  generalize call T (k + 2) = C at l1 l2 l3
  unfold run Lib.are_numbers
  cases h1 : wholeB n 0 12 with
  | false => simp [MF.start, hI, cmp_str, l1, h1]
  | true => cases h2 : wholeB d 1 12 with
    | false => simp [MF.start, hI, cmp_str, l1, l2, h1, h2]
    | true =>
      obtain ⟨i, rfl⟩ := whole_is h1
      obtain ⟨j, rfl⟩ := whole_is h2
      by_cases hij : i ≤ j <;> simp [MF.start, hI, cmp_str, l1, l2, h1, h2, l3, leB, hij]
theorem inner_sure {r : List D} : call T (k + 3) (Str.ofString "inner_values") [] [.tup (.str sSure :: r)] = .ok (.o [], []) := by
  rw [call_of F.inner]
  generalize call T (k + 2) = C
  unfold run Lib.inner_values
  simp [MF.start, cmp_str]
theorem inner_op {w : Str} {r : List D} {c : D} (hw : strOk w = true) (h1 : ¬ w = sSure) (h2 : ¬ w = sDraw) (hl : item (.tup (.str w :: r)) (.int (-1)) = .ok c) : call T (k + 3) (Str.ofString "inner_values") [] [.tup (.str w :: r)] = .ok (.o [c], []) := by
  rw [call_of F.inner]
  generalize call T (k + 2) = C
  unfold run Lib.inner_values
  simp [MF.start, cmp_str, cmp_strN, hw, str_ne h1, str_ne h2, hl]
theorem inner_draw {x : D} (hx1 : sh 60 x = true) : call T (k + 3) (Str.ofString "inner_values") [] [.tup [.str sDraw, x]] = .ok (optD (partsW sDraw [x]), []) := by
  rw [call_of F.inner]
  have lw := fun (v : D) lo hi hv => isw_ok F (k + 1) (v := v) lo hi hv
  generalize call T (k + 2) = C at lw
  have tx1 := sh_ty hx1
  cases hw1 : isTy x .tuple with
  | false =>
    have : partsW sDraw [x] = none := by
      unfold partsW; rw [if_pos rfl]
      cases x <;> first | rfl | simp at hw1
    rw [this]
    unfold run Lib.inner_values
    simp [MF.start, cmp_str, cmp_strN, tx1, hw1, optD]
  | true =>
    cases x with
    | tup rows =>
      have hrows : ∀ d ∈ rows, sh 60 d = true := fun d hd => sh_tup hx1 d hd
      obtain ⟨e1, h1, s3, hs3, rfl⟩ := forL_all (b := turn C (.nm 1) (.cons (.iff (.or (.not (.v (.isi [.tuple] (.var 1)))) (.or (.v (.cmp .ne (.lenv 1) (.con (.int 2)))) (.not (.v (.call (Str.ofString "is_whole") (.cons (.ixv 1 (.con (.int 0))) (.cons (.con (.int 1)) (.cons (.con (.int 12)) .nil)))))))) (.cons (.ret (.con .non)) .nil) .nil) .nil))
        (p := rowOk) (r := .v .non) (I := fun env => ∃ s, (s = .un ∨ ∃ d, s = .fz d) ∧ env = [.fz (.tup [.str sDraw, .tup rows]), s]) (ds := rows) (env := [.fz (.tup [.str sDraw, .tup rows]), .un]) ⟨_, .inl rfl, rfl⟩ (by
          rintro d hd env ⟨s, _, rfl⟩
          have hd1 := hrows d hd
          refine ⟨[.fz (.tup [.str sDraw, .tup rows]), .fz d], ?_, ⟨_, .inr ⟨_, rfl⟩, rfl⟩⟩
          have td := sh_ty hd1
          cases d with
          | tup ds =>
            match ds, hd1 with
            | [], _ => simp [rowOk, blen]
            | [x], _ => simp [rowOk, blen]
            | [x, y], hd1 =>
              have l1 := lw x 1 12 (sh_tup hd1 x (by simp))
              cases hh : wholeB x 1 12 <;> simp [rowOk, blen, l1, hh]
            | x :: y :: z :: t, _ =>
              have hl : ((t.length : Int) + 1 + 1 + 1 == 2) = false := by rw [beq_eq_false_iff_ne]; omega
              simp [rowOk, blen, hl]
          | _ => simp [rowOk, td, isTy])
      have ep : partsW sDraw [.tup rows] = if (decide (1 ≤ rows.length) && decide (rows.length ≤ 4) && rows.all rowOk) = true then some (rows.map rowPart) else none := by unfold partsW; rw [if_pos rfl]
      rw [ep]
      have itm : item (.tup [.str sDraw, .tup rows]) (.int 1) = .ok (.tup rows) := item1 _ _ _
      by_cases c1 : 1 ≤ rows.length
      · by_cases c2 : rows.length ≤ 4
        · have i1 : (1 : Int) ≤ rows.length := by omega
          have i2 : (rows.length : Int) ≤ 4 := by omega
          cases ha : rows.all rowOk with
          | false =>
            rw [ha] at h1
            unfold run Lib.inner_values
            simp [MF.start, cmp_str, cmp_strN, i1, i2, h1, optD]
          | true =>
            rw [ha] at h1
            rw [if_pos (by simp [c1, c2])]
            have n3 : noOwn [Sl.fz (.tup [.str sDraw, .tup rows]), s3] [1] = true := by
              rcases hs3 with rfl | ⟨d, rfl⟩ <;> rfl
            obtain ⟨e2, h2, u3, rfl⟩ := loopC_map (t := turnC C (.nm 1) .none (.ixv 1 (.con (.int 1))) [1]) (f := fun d => d) (g := rowPart)
              (I := fun env => ∃ s, env = [.fz (.tup [.str sDraw, .tup rows]), s]) rows [.fz (.tup [.str sDraw, .tup rows]), s3] [] ⟨_, rfl⟩ (by
                rintro d hd env ⟨s, rfl⟩
                refine ⟨[.fz (.tup [.str sDraw, .tup rows]), .fz d], ?_, ⟨_, rfl⟩⟩
                have hd2 := List.all_eq_true.mp ha d hd
                obtain ⟨x, y, rfl⟩ := rowOk_is hd2
                simp [rowPart])
            rw [List.map_id'] at h2
            unfold run Lib.inner_values
            simp [MF.start, cmp_str, cmp_strN, i1, i2, h1, n3, h2, optD]
        · have i1 : (1 : Int) ≤ rows.length := by omega
          have i2 : ¬ (rows.length : Int) ≤ 4 := by omega
          rw [if_neg (by simp [c2])]
          unfold run Lib.inner_values
          simp [MF.start, cmp_str, cmp_strN, i1, i2, optD]
      · have i1 : ¬ (1 : Int) ≤ rows.length := by omega
        rw [if_neg (by simp [c1])]
        unfold run Lib.inner_values
        simp [MF.start, cmp_str, cmp_strN, i1, optD]
    | _ => simp [isTy] at hw1
abbrev PL : List (Str × Int) := [(sSure, 2), (sDraw, 2), (sCap, 3), (sFloor, 3), (sMore, 3), (sShare, 4), (sIns, 5)]
theorem pre {w : Str} {r : List D} (hv : sh 60 (.tup (.str w :: r)) = true) : ∃ n : Int, (look PL w = some n ∨ look PL w = none ∧ n = 0) ∧ ((¬ n = r.length + 1 ∧ partsW w r = none) ∨
    (n = r.length + 1 ∧ ∃ b, call T (k + 3) (Str.ofString "are_numbers") [] [.tup (.str w :: r)] = .ok (.v (.bl b), []) ∧ (b = false → partsW w r = none) ∧ (b = true → call T (k + 3) (Str.ofString "inner_values") [] [.tup (.str w :: r)] = .ok (optD (partsW w r), [])))) := by
  have hr : ∀ d ∈ r, sh 60 d = true := fun d hd => sh_tup hv d (by simp [hd])
  by_cases h1 : w = sDraw
  · subst h1
    refine ⟨2, .inl rfl, ?_⟩
    match r, hr with
    | [], _ => exact .inl ⟨by simp, rfl⟩
    | x :: y :: t, _ => exact .inl ⟨by simp; omega, by unfold partsW; rw [if_pos rfl]; cases x <;> rfl⟩
    | [x], hr => exact .inr ⟨by simp, true, numbers_draw F k, fun h => (by cases h), fun _ => inner_draw F k (hr x (by simp))⟩
  by_cases h2 : w = sSure
  · subst h2
    refine ⟨2, .inl rfl, ?_⟩
    match r, hr with
    | [], _ => exact .inl ⟨by simp, rfl⟩
    | x :: y :: t, _ => exact .inl ⟨by simp; omega, rfl⟩
    | [x], hr =>
      have e : partsW sSure [x] = if wholeB x (-1000) 1000 = true then some [] else none := rfl
      refine .inr ⟨by simp, _, numbers_four F k (.inl rfl) (hr x (by simp)), fun h => ?_, fun h => ?_⟩
      · rw [e, h]; rfl
      · rw [e, h]; exact inner_sure F k
  by_cases h3 : w = sCap ∨ w = sFloor ∨ w = sMore
  · have epg : ∀ r, partsW w r = (match r with | [a, c] => if wholeB a (-1000) 1000 = true then some [c] else none | _ => none) := by
      intro r; unfold partsW; rw [if_neg h1, if_neg h2, if_pos h3] <;> rfl
    have hw' : strOk w = true := by rcases h3 with rfl | rfl | rfl <;> simp
    refine ⟨3, .inl (by rcases h3 with rfl | rfl | rfl <;> rfl), ?_⟩
    match r, hr with
    | [], _ => exact .inl ⟨by simp, epg _⟩
    | [x], _ => exact .inl ⟨by simp, epg _⟩
    | x :: y :: z :: t, _ => exact .inl ⟨by simp; omega, epg _⟩
    | [x, y], hr =>
      have e : partsW w [x, y] = if wholeB x (-1000) 1000 = true then some [y] else none := epg _
      refine .inr ⟨by simp, _, numbers_four F k (.inr h3) (hr x (by simp)), fun h => ?_, fun h => ?_⟩
      · rw [e, h]; rfl
      · rw [e, h]; exact inner_op F k hw' h2 h1 (last3 _ _ _)
  by_cases h4 : w = sShare
  · subst h4
    have epg : ∀ r, partsW sShare r = (match r with | [n, d, c] => if (wholeB n 0 12 && wholeB d 1 12) = true then some [c] else none | _ => none) := fun r => rfl
    refine ⟨4, .inl rfl, ?_⟩
    match r, hr with
    | [], _ => exact .inl ⟨by simp, epg _⟩
    | [x], _ => exact .inl ⟨by simp, epg _⟩
    | [x, y], _ => exact .inl ⟨by simp, epg _⟩
    | x :: y :: z :: u :: t, _ => exact .inl ⟨by simp; omega, epg _⟩
    | [x, y, z], hr =>
      refine .inr ⟨by simp, _, numbers_share F k (hr x (by simp)) (hr y (by simp)), fun h => ?_, fun h => ?_⟩
      · rw [epg]; dsimp only; rw [h]; rfl
      · rw [epg]; dsimp only; rw [h]; exact inner_op F k (by simp) h2 h1 (last4 _ _ _ _)
  by_cases h5 : w = sIns
  · subst h5
    have epg : ∀ r, partsW sIns r = (match r with | [n, d, b, c] => if (wholeB n 0 12 && wholeB d 1 12 && (leB n d && wholeB b (-1000) 1000)) = true then some [c] else none | _ => none) := fun r => rfl
    refine ⟨5, .inl rfl, ?_⟩
    match r, hr with
    | [], _ => exact .inl ⟨by simp, epg _⟩
    | [x], _ => exact .inl ⟨by simp, epg _⟩
    | [x, y], _ => exact .inl ⟨by simp, epg _⟩
    | [x, y, z], _ => exact .inl ⟨by simp, epg _⟩
    | x :: y :: z :: u :: v :: t, _ => exact .inl ⟨by simp; omega, epg _⟩
    | [x, y, z, u], hr =>
      refine .inr ⟨by simp, _, numbers_ins F k (hr x (by simp)) (hr y (by simp)) (hr z (by simp)), fun h => ?_, fun h => ?_⟩
      · rw [epg]; dsimp only; rw [h]; rfl
      · rw [epg]; dsimp only; rw [h]; exact inner_op F k (by simp) h2 h1 (last5 _ _ _ _ _)
  · have epg : partsW w r = none := by
      unfold partsW; rw [if_neg h1, if_neg h2, if_neg h3, if_neg h4, if_neg h5]
    have hc : ¬ w = sCap := fun e => h3 (.inl e)
    have hf : ¬ w = sFloor := fun e => h3 (.inr (.inl e))
    have hm : ¬ w = sMore := fun e => h3 (.inr (.inr e))
    have lk : look PL w = none := by
      unfold PL look; rw [if_neg (Ne.symm h2)]; unfold look; rw [if_neg (Ne.symm h1)]; unfold look; rw [if_neg (Ne.symm hc)]; unfold look; rw [if_neg (Ne.symm hf)]; unfold look; rw [if_neg (Ne.symm hm)]; unfold look; rw [if_neg (Ne.symm h4)]; unfold look; rw [if_neg (Ne.symm h5)]; rfl
    refine ⟨0, .inr ⟨lk, rfl⟩, .inl ⟨by omega, epg⟩⟩
end
def cntF (f : D → Option Nat) (acc : Nat) : List D → Option Nat
  | [] => some acc
  | p :: ps => match f p with | none => none | some n => cntF f (acc + n) ps
def cnt : Nat → D → Option Nat
  | 0, _ => none
  | d + 1, v => match parts v with
    | none => none
    | some [] => some 1
    | some (p :: ps) => cntF (cnt d) 0 (p :: ps)
def optN : Option Nat → R
  | none => .v .non
  | some n => .v (.int n)
theorem count_ok {T : Tab} (F : HasIs T) (k : Nat) : ∀ (d : Nat) {v : D}, sh 59 v = true → call T (k + 4 + d) (Str.ofString "sure_count") [] [v, .int d] = .ok (optN (cnt d v), [])
  | 0, v, hv => by
    rw [show k + 4 + 0 = (k + 3) + 1 from rfl, call_of F.count]
    generalize call T (k + 3) = C
    unfold run Lib.sure_count
    simp [MF.start, cnt, optN]
  | d + 1, v, hv => by
    rw [show k + 4 + (d + 1) = (k + 4 + d) + 1 from rfl, call_of F.count]
    have hv60 : sh 60 v = true := sh_mono (by decide) hv
    have ih := fun (p : D) (hp : sh 59 p = true) => count_ok F k d hp
    have hd0 : (((d + 1 : Nat) : Int) == 0) = false := by rw [beq_eq_false_iff_ne]; omega
    have hd1 : ((d + 1 : Nat) : Int) - 1 = (d : Int) := by omega
    have hpre := fun (w : Str) (r : List D) (h : sh 60 (.tup (.str w :: r)) = true) => pre F (k + 1 + d) h
    rw [show k + 1 + d + 3 = k + 4 + d from by omega] at hpre
    generalize call T (k + 4 + d) = C at hpre ih
    generalize hdd : ((d + 1 : Nat) : Int) = dd at hd0 hd1
    have ty := sh_ty hv
    cases hvt : isTy v .tuple with
    | false =>
      have : parts v = none := by cases v <;> first | rfl | simp at hvt
      have hc : cnt (d + 1) v = none := by simp [cnt, this]
      rw [hc]
      unfold run Lib.sure_count
      simp [MF.start, ty, hd0, hvt, optN]
    | true =>
    cases v with
    | tup ds =>
      cases ds with
      | nil =>
        have e0 : cmp2 .eq (.tup []) (.tup []) = .ok true := by rw [cmp_eq rfl rfl]; simp [dq, dqs]
        unfold run Lib.sure_count
        simp [MF.start, hd0, optN, cnt, parts, e0]
      | cons x r =>
        have hx := sh_tup hv60 x (by simp)
        have tx := sh_ty hx
        have e0 : cmp2 .eq (.tup (x :: r)) (.tup []) = .ok false := by rw [cmp_eq hv60 (by rfl)]; simp [dq, dqs]
        cases hw : isTy x .str with
        | false =>
          have : parts (.tup (x :: r)) = none := by
            cases x <;> first | rfl | simp [isTy] at hw
          have hc : cnt (d + 1) (.tup (x :: r)) = none := by simp [cnt, this]
          rw [hc]
          unfold run Lib.sure_count
          simp [MF.start, hd0, optN, e0, tx, hw]
        | true =>
          cases x with
          | str w =>
            obtain ⟨n, hn0, hh⟩ := hpre w r hv60
            have hn : ev C (.kget PL (.ixv 0 (.con (.int 0))) (.con (.int 0))) [.fz (.tup (.str w :: r)), .fz (.int dd), .un, .un, .un, .un] = .ok (.v (.int n), [.fz (.tup (.str w :: r)), .fz (.int dd), .un, .un, .un, .un]) := by
              rcases hn0 with h | ⟨h, rfl⟩ <;> simp [h]
            have hcu : cnt (d + 1) (.tup (.str w :: r)) = (match partsW w r with | none => none | some [] => some 1 | some (p :: ps) => cntF (cnt d) 0 (p :: ps)) := rfl
            have hlen : ((r.length + 1 : Nat) : Int) = (r.length : Int) + 1 := by omega
            rcases hh with ⟨hne, hp⟩ | ⟨heq, b, hb, hb0, hb1⟩
            · have hne' : (n == (r.length : Int) + 1) = false := by rw [beq_eq_false_iff_ne]; exact hne
              rw [hcu, hp]
              unfold run Lib.sure_count
              simp [MF.start, hd0, optN, e0, hn, hne', -ev_kget]
            · have heq' : (n == (r.length : Int) + 1) = true := by rw [heq]; simp
              cases b with
              | false =>
                rw [hcu, hb0 rfl]
                unfold run Lib.sure_count
                simp [MF.start, hd0, optN, e0, hn, heq', -ev_kget, hb]
              | true =>
                have hi := hb1 rfl
                rw [hcu]
                cases hp : partsW w r with
                | none =>
                  rw [hp] at hi
                  unfold run Lib.sure_count
                  simp [MF.start, hd0, optN, e0, hn, heq', -ev_kget, hb, hi, optD]
                | some ps =>
                  rw [hp] at hi
                  have hps : ∀ p ∈ ps, sh 59 p = true := parts_sh hv (show parts (.tup (.str w :: r)) = some ps from hp)
                  have h60 : sh 60 (.lst ps) = true := shs_all.mpr hps
                  have e1 : cmp2 .eq (.lst ps) (.lst []) = .ok (dq (.lst ps) (.lst [])) := cmp_eq h60 rfl
                  cases ps with
                  | nil =>
                    have q : dq (.lst []) (.lst []) = true := by simp [dq, dqs]
                    rw [q] at e1
                    unfold run Lib.sure_count
                    simp [MF.start, hd0, optN, e0, hn, heq', -ev_kget, hb, hi, optD, e1]
                  | cons p ps =>
                    have q : dq (.lst (p :: ps)) (.lst []) = false := by simp [dq, dqs]
                    rw [q] at e1
                    dsimp only
                    generalize p :: ps = qs at hi hps e1 ⊢
                    have loop : ∀ (qs : List D) (acc : Nat) (s2 s4 s5 : Sl), (∀ p ∈ qs, sh 59 p = true) → ∃ env fl, forL (turn C (.nm 4) (.cons (.asg 5 false (.call (Str.ofString "sure_count") (.cons (.var 4) (.cons (.bin .sub (.var 1) (.con (.int 1))) .nil)))) (.cons (.iff (.v (.cmp .is_ (.var 5) (.con .non))) (.cons (.ret (.con .non)) .nil) .nil) (.cons (.asg 3 false (.bin .add (.var 3) (.var 5))) .nil)))) qs [.fz (.tup (.str w :: r)), .fz (.int dd), s2, .fz (.int acc), s4, s5] = .ok (fl, env) ∧
                        ((cntF (cnt d) acc qs = none ∧ fl = .rt (.v .non)) ∨ ∃ m : Nat, ∃ a b, cntF (cnt d) acc qs = some m ∧ fl = .nx ∧ env = [.fz (.tup (.str w :: r)), .fz (.int dd), s2, .fz (.int m), a, b]) := by
                      intro qs
                      induction qs with
                      | nil => intro acc s2 s4 s5 _; exact ⟨_, _, rfl, .inr ⟨acc, s4, s5, rfl, rfl, rfl⟩⟩
                      | cons p ps ihl =>
                        intro acc s2 s4 s5 hp
                        have l1 := ih p (hp p (by simp))
                        cases hc : cnt d p with
                        | none =>
                          rw [hc] at l1
                          refine ⟨[.fz (.tup (.str w :: r)), .fz (.int dd), s2, .fz (.int acc), .fz p, .fz .non], .rt (.v .non), ?_, .inl ⟨by unfold cntF; rw [hc], rfl⟩⟩
                          simp [hd1, l1, optN]
                        | some n =>
                          rw [hc] at l1
                          have e5 : cntF (cnt d) acc (p :: ps) = cntF (cnt d) (acc + n) ps := by rw [cntF, hc]
                          rw [e5]
                          obtain ⟨env, fl, h1, h2⟩ := ihl (acc + n) s2 (.fz p) (.fz (.int n)) fun x hx => hp x (by simp [hx])
                          refine ⟨env, fl, ?_, h2⟩
                          rw [← h1]
                          simp [hd1, l1, optN]
                    obtain ⟨env, fl, h1, h2⟩ := loop qs 0 (.fz (.lst qs)) .un .un hps
                    rw [show ((0 : Nat) : Int) = 0 from rfl] at h1
                    rcases h2 with ⟨h2, rfl⟩ | ⟨m, a, b, h2, rfl, rfl⟩
                    · rw [h2]
                      unfold run Lib.sure_count
                      simp [MF.start, hd0, optN, e0, hn, heq', -ev_kget, hb, hi, optD, e1, h1]
                    · rw [h2]
                      unfold run Lib.sure_count
                      simp [MF.start, hd0, optN, e0, hn, heq', -ev_kget, hb, hi, optD, e1, h1]
          | _ => simp [isTy] at hw
    | _ => simp [isTy] at hvt
end MP

end
section
set_option linter.all false
set_option maxRecDepth 100000
set_option maxHeartbeats 2000000
/-! What is counted is a contract. -/
namespace MP
open PySem (Str)
theorem cntF_en {f : D → Option Nat} {g : D → Nat} : ∀ (ps : List D) (acc : Nat), (∀ p ∈ ps, (∀ n, f p = some n → g p = n) ∧ (f p = none → 1000 ≤ g p)) → (∀ n, cntF f acc ps = some n → acc + (ps.map g).sum = n) ∧ (cntF f acc ps = none → 1000 ≤ (ps.map g).sum)
  | [], acc, _ => ⟨fun n h => by cases h; simp, fun h => by cases h⟩
  | p :: ps, acc, h => by
    obtain ⟨h1, h2⟩ := h p (by simp)
    unfold cntF
    cases hf : f p with
    | none => exact ⟨fun n h => (by cases h), fun _ => by have := h2 hf; simp; omega⟩
    | some m =>
      obtain ⟨i1, i2⟩ := cntF_en ps (acc + m) fun q hq => h q (by simp [hq])
      have := h1 m hf
      exact ⟨fun n hn => by have := i1 n hn; simp; omega, fun hn => by have := i2 hn; simp; omega⟩
theorem cnt_en : ∀ (d : Nat) (v : D), (∀ n, cnt d v = some n → en d v = n) ∧ (cnt d v = none → 1000 ≤ en d v)
  | 0, v => ⟨fun n h => (by cases h), fun _ => Nat.le_refl _⟩
  | d + 1, v => by
    unfold cnt en
    cases parts v with
    | none => exact ⟨fun n h => (by cases h), fun _ => Nat.le_refl _⟩
    | some ps =>
      cases ps with
      | nil => exact ⟨fun n h => (by cases h; rfl), fun h => (by cases h)⟩
      | cons p ps =>
        have := cntF_en (f := cnt d) (g := en d) (p :: ps) 0 fun q _ => cnt_en d q
        refine ⟨fun n h => ?_, this.2⟩
        have := this.1 n h
        show ((p :: ps).map (en d)).sum = n
        omega
/-- a value is a contract -/
def isC (v : D) : Bool := match cnt 6 v with
  | some n => decide (n ≤ 12)
  | none => false
theorem isC_en (v : D) : isC v = decide (en 6 v ≤ 12) := by
  obtain ⟨h1, h2⟩ := cnt_en 6 v
  unfold isC
  cases h : cnt 6 v with
  | none => have := h2 h; simp; omega
  | some n => rw [h1 n h]
theorem isc_ok {T : Tab} (F : HasShape T) (k : Nat) {v : D} (hv : sh 59 v = true) : call T (k + 10) (Str.ofString "_law_is_contract") [] [v] = .ok (.v (.bl (isC v)), []) := by
  rw [call_of F.isc, isC_en]
  have l := ends_ok F k 6 hv
  rw [show k + 3 + 6 = k + 9 from rfl] at l
  generalize call T (k + 9) = C at l
  unfold run Lib._law_is_contract
  have : decide ((en 6 v : Int) ≤ 12) = decide (en 6 v ≤ 12) := by simp; omega
  simp at l
  simp [MF.start, l]
  omega
theorem has_ok {T : Tab} (F : HasIs T) (k : Nat) {v : D} (hv : sh 59 v = true) : call T (k + 11) (Str.ofString "has_contract") [] [v] = .ok (.v (.bl (isC v)), []) := by
  rw [call_of F.has]
  have l := count_ok F k 6 hv
  rw [show k + 4 + 6 = k + 10 from rfl] at l
  generalize call T (k + 10) = C at l
  unfold run Lib.has_contract isC
  cases h : cnt 6 v with
  | none => rw [h] at l; simp [optN] at l; simp [MF.start, l]
  | some n =>
    rw [h] at l
    simp [optN] at l
    simp [MF.start, l]
    omega
def CtrL.len : CtrL → Nat
  | .nil => 0
  | .cons _ _ r => r.len + 1
def inR (a lo hi : Int) : Prop := lo ≤ a ∧ a ≤ hi
mutual
/-- a contract at most so deep -/
def Ctr.ok : Ctr → Nat → Prop
  | _, 0 => False
  | .sure a, _ + 1 => inR a (-1000) 1000
  | .draw l, d + 1 => (1 ≤ l.len ∧ l.len ≤ 4) ∧ l.ok d
  | .cap a c, d + 1 => inR a (-1000) 1000 ∧ c.ok d
  | .floor a c, d + 1 => inR a (-1000) 1000 ∧ c.ok d
  | .more a c, d + 1 => inR a (-1000) 1000 ∧ c.ok d
  | .share n m c, d + 1 => (inR n 0 12 ∧ inR m 1 12) ∧ c.ok d
  | .insured n m a c, d + 1 => (inR n 0 12 ∧ inR m 1 12 ∧ n ≤ m ∧ inR a (-1000) 1000) ∧ c.ok d
def CtrL.ok : CtrL → Nat → Prop
  | .nil, _ => True
  | .cons w c r, d => inR w 1 12 ∧ c.ok d ∧ r.ok d
end
mutual
def Ctr.ends : Ctr → Nat
  | .sure _ => 1
  | .draw l => l.ends
  | .cap _ c => c.ends
  | .floor _ c => c.ends
  | .more _ c => c.ends
  | .share _ _ c => c.ends
  | .insured _ _ _ c => c.ends
def CtrL.ends : CtrL → Nat
  | .nil => 0
  | .cons _ c r => c.ends + r.ends
end
theorem wholeR {a : D} {lo hi : Int} (h : wholeB a lo hi = true) : ∃ i, a = .int i ∧ inR i lo hi := by
  obtain ⟨i, rfl⟩ := whole_is h
  simp [wholeB] at h
  exact ⟨i, rfl, h⟩
theorem cntF_one {f : D → Option Nat} {c : D} {n : Nat} (h : cntF f 0 [c] = some n) : f c = some n := by
  unfold cntF at h
  cases hf : f c with
  | none => rw [hf] at h; cases h
  | some m => rw [hf] at h; simp [cntF] at h; rw [h]
theorem ctr_rows {d : Nat} (ih : ∀ (v : D) (n : Nat), cnt d v = some n → ∃ c : Ctr, v = c.d ∧ c.ok d ∧ c.ends = n) : ∀ (rows : List D) (acc n : Nat), rows.all rowOk = true → cntF (cnt d) acc (rows.map rowPart) = some n →
    ∃ l : CtrL, rows = l.ds ∧ l.ok d ∧ acc + l.ends = n ∧ l.len = rows.length
  | [], acc, n, _, h => ⟨.nil, rfl, trivial, by simp [cntF] at h; simp [CtrL.ends, h], rfl⟩
  | r :: rows, acc, n, ha, h => by
    rw [List.all_cons, Bool.and_eq_true] at ha
    obtain ⟨w, p, rfl⟩ := rowOk_is ha.1
    have hw : wholeB w 1 12 = true := ha.1
    obtain ⟨i, rfl, hi⟩ := wholeR hw
    rw [List.map_cons, cntF] at h
    have ep : rowPart (.tup [.int i, p]) = p := rfl
    rw [ep] at h
    cases hc : cnt d p with
    | none => rw [hc] at h; cases h
    | some m =>
      rw [hc] at h
      obtain ⟨c, rfl, h2, h3⟩ := ih p m hc
      obtain ⟨l, rfl, h5, h6, h7⟩ := ctr_rows ih rows (acc + m) n ha.2 h
      exact ⟨.cons i c l, rfl, ⟨hi, h2, h5⟩, by simp [CtrL.ends]; omega, by simp [CtrL.len, h7]⟩
theorem partsW_inv {w : Str} {r ps : List D} (h : partsW w r = some ps) : (∃ rows, w = sDraw ∧ r = [.tup rows] ∧ 1 ≤ rows.length ∧ rows.length ≤ 4 ∧ rows.all rowOk = true ∧ ps = rows.map rowPart) ∨
    (∃ a, w = sSure ∧ r = [a] ∧ wholeB a (-1000) 1000 = true ∧ ps = []) ∨ (∃ a c, (w = sCap ∨ w = sFloor ∨ w = sMore) ∧ r = [a, c] ∧ wholeB a (-1000) 1000 = true ∧ ps = [c]) ∨
    (∃ n m c, w = sShare ∧ r = [n, m, c] ∧ wholeB n 0 12 = true ∧ wholeB m 1 12 = true ∧ ps = [c]) ∨
    (∃ n m b c, w = sIns ∧ r = [n, m, b, c] ∧ wholeB n 0 12 = true ∧ wholeB m 1 12 = true ∧ leB n m = true ∧ wholeB b (-1000) 1000 = true ∧ ps = [c]) := by
  unfold partsW at h
  split at h
  · rename_i hw
    split at h
    · split at h
      · rename_i hc
        cases h
        simp only [Bool.and_eq_true, decide_eq_true_eq] at hc
        exact .inl ⟨_, hw, rfl, hc.1.1, hc.1.2, hc.2, rfl⟩
      · cases h
    · cases h
  · split at h
    · rename_i hw
      split at h
      · split at h
        · rename_i hc
          cases h
          exact .inr (.inl ⟨_, hw, rfl, hc, rfl⟩)
        · cases h
      · cases h
    · split at h
      · rename_i hw
        split at h
        · split at h
          · rename_i hc
            cases h
            exact .inr (.inr (.inl ⟨_, _, hw, rfl, hc, rfl⟩))
          · cases h
        · cases h
      · split at h
        · rename_i hw
          split at h
          · split at h
            · rename_i hc
              cases h
              simp only [Bool.and_eq_true] at hc
              exact .inr (.inr (.inr (.inl ⟨_, _, _, hw, rfl, hc.1, hc.2, rfl⟩)))
            · cases h
          · cases h
        · split at h
          · rename_i hw
            split at h
            · split at h
              · rename_i hc
                cases h
                simp only [Bool.and_eq_true] at hc
                exact .inr (.inr (.inr (.inr ⟨_, _, _, _, hw, rfl, hc.1.1, hc.1.2, hc.2.1, hc.2.2, rfl⟩)))
              · cases h
            · cases h
          · cases h
theorem ctr_of : ∀ (d : Nat) (v : D) (n : Nat), cnt d v = some n → ∃ c : Ctr, v = c.d ∧ c.ok d ∧ c.ends = n
  | 0, v, n, h => by cases h
  | d + 1, v, n, h => by
    have ih := ctr_of d
    cases v with
    | tup ds =>
      cases ds with
      | nil => cases h
      | cons x r =>
        cases x with
        | str w =>
          replace h : (match partsW w r with | none => none | some [] => some 1 | some (p :: ps) => cntF (cnt d) 0 (p :: ps)) = some n := h
          cases hp : partsW w r with
          | none => rw [hp] at h; cases h
          | some ps =>
            rw [hp] at h
            rcases partsW_inv hp with ⟨rows, rfl, rfl, l1, l4, ha, rfl⟩ | ⟨a, rfl, rfl, ha, rfl⟩ | ⟨a, c, hw, rfl, ha, rfl⟩ | ⟨a, m, c, rfl, rfl, ha, hm, rfl⟩ | ⟨a, m, b, c, rfl, rfl, ha, hm, hl, hb, rfl⟩
            · have h' : cntF (cnt d) 0 (rows.map rowPart) = some n := by
                cases rows with
                | nil => simp at l1
                | cons y ys => exact h
              obtain ⟨l, rfl, h2, h3, h4⟩ := ctr_rows ih rows 0 n ha h'
              exact ⟨.draw l, rfl, ⟨⟨by rw [h4]; exact l1, by rw [h4]; exact l4⟩, h2⟩, by simp only [Ctr.ends]; omega⟩
            · obtain ⟨i, rfl, hi⟩ := wholeR ha
              have h : some 1 = some n := h
              cases h
              exact ⟨.sure i, rfl, hi, rfl⟩
            · obtain ⟨i, rfl, hi⟩ := wholeR ha
              obtain ⟨c, rfl, h2, h3⟩ := ih _ _ (cntF_one h)
              rcases hw with rfl | rfl | rfl
              · exact ⟨.cap i c, rfl, ⟨hi, h2⟩, h3⟩
              · exact ⟨.floor i c, rfl, ⟨hi, h2⟩, h3⟩
              · exact ⟨.more i c, rfl, ⟨hi, h2⟩, h3⟩
            · obtain ⟨i, rfl, hi⟩ := wholeR ha
              obtain ⟨j, rfl, hj⟩ := wholeR hm
              obtain ⟨c, rfl, h2, h3⟩ := ih _ _ (cntF_one h)
              exact ⟨.share i j c, rfl, ⟨⟨hi, hj⟩, h2⟩, h3⟩
            · obtain ⟨i, rfl, hi⟩ := wholeR ha
              obtain ⟨j, rfl, hj⟩ := wholeR hm
              obtain ⟨b, rfl, hb2⟩ := wholeR hb
              obtain ⟨c, rfl, h2, h3⟩ := ih _ _ (cntF_one h)
              simp [leB] at hl
              exact ⟨.insured i j b c, rfl, ⟨⟨hi, hj, hl, hb2⟩, h2⟩, h3⟩
        | _ => cases h
    | _ => cases h
/-- what is told to be a contract is one -/
theorem isC_ctr {v : D} (h : isC v = true) : ∃ c : Ctr, v = c.d ∧ c.ok 6 ∧ c.ends ≤ 12 := by
  unfold isC at h
  cases hc : cnt 6 v with
  | none => rw [hc] at h; cases h
  | some n =>
    rw [hc] at h
    obtain ⟨c, h1, h2, h3⟩ := ctr_of 6 v n hc
    exact ⟨c, h1, h2, by simp at h; omega⟩
end MP

end
section
set_option linter.all false
set_option maxRecDepth 100000
set_option maxHeartbeats 1000000
/-! Rows as distributions: sums over pairs, and pairs that are alike. -/
namespace MP
abbrev Prs := List (Rat × Rat)
/-- the sum of g of the amounts, each times its chance -/
def dot (g : Rat → Rat) : Prs → Rat
  | [] => 0
  | r :: rs => g r.1 * r.2 + dot g rs
def ind (a x : Rat) : Rat := if x = a then 1 else 0
theorem dot_app (g : Rat → Rat) : ∀ (l m : Prs), dot g (l ++ m) = dot g l + dot g m
  | [], m => by simp [dot]; grind
  | r :: l, m => by simp only [List.cons_append, dot, dot_app g l m]; grind
theorem dot_map (g f : Rat → Rat) : ∀ (l : Prs), dot g (l.map fun r => (f r.1, r.2)) = dot (fun x => g (f x)) l
  | [] => rfl
  | r :: l => by simp only [List.map_cons, dot, dot_map g f l]
theorem dot_scale (g : Rat → Rat) (c : Rat) : ∀ (l : Prs), dot g (l.map fun r => (r.1, r.2 * c)) = c * dot g l
  | [] => by simp [dot]
  | r :: l => by simp only [List.map_cons, dot, dot_scale g c l]; grind
theorem dot_add (g h : Rat → Rat) : ∀ (l : Prs), dot (fun x => g x + h x) l = dot g l + dot h l
  | [] => by simp [dot]; grind
  | r :: l => by simp only [dot, dot_add g h l]; grind
theorem dot_smul (c : Rat) (g : Rat → Rat) : ∀ (l : Prs), dot (fun x => c * g x) l = c * dot g l
  | [] => by simp [dot]
  | r :: l => by simp only [dot, dot_smul c g l]; grind
theorem dot_congr {g h : Rat → Rat} : ∀ (l : Prs), (∀ r ∈ l, g r.1 = h r.1) → dot g l = dot h l
  | [], _ => rfl
  | r :: l, e => by simp only [dot, e r (by simp), dot_congr l fun x hx => e x (by simp [hx])]
theorem massA_dot (a : Rat) : ∀ (rs : Prs) (s : Rat), massA s a rs = s + dot (ind a) rs
  | [], s => by simp [massA, dot]; grind
  | r :: rs, s => by
    unfold massA
    by_cases h : r.1 = a
    · rw [if_pos h, massA_dot a rs]; simp only [dot, ind, if_pos h]; grind
    · rw [if_neg h, massA_dot a rs]; simp only [dot, ind, if_neg h]; grind
/-- .. over amounts, each once -/
def sumL (f : Rat → Rat) : List Rat → Rat
  | [] => 0
  | a :: l => f a + sumL f l
theorem sumL_add (f h : Rat → Rat) : ∀ l : List Rat, sumL (fun a => f a + h a) l = sumL f l + sumL h l
  | [] => by simp [sumL]; grind
  | a :: l => by simp only [sumL, sumL_add f h l]; grind
theorem sumL_zero {f : Rat → Rat} : ∀ {l : List Rat}, (∀ a ∈ l, f a = 0) → sumL f l = 0
  | [], _ => rfl
  | a :: l, h => by
    have e : sumL f l = 0 := sumL_zero fun x hx => h x (by simp [hx])
    simp only [sumL, h a (by simp), e]; grind
theorem sumL_ind (g : Rat → Rat) (x p : Rat) : ∀ {l : List Rat}, l.Pairwise (· < ·) → x ∈ l → sumL (fun a => g a * (ind a x * p)) l = g x * p
  | [], _, h => by simp at h
  | a :: l, hp, h => by
    obtain ⟨h1, h2⟩ := List.pairwise_cons.mp hp
    by_cases e : x = a
    · have : sumL (fun a => g a * (ind a x * p)) l = 0 := sumL_zero fun b hb => by
        have := h1 b hb
        have : x ≠ b := by rw [e]; grind
        simp [ind, this]
      simp only [sumL, this]
      rw [e]; simp [ind]; grind
    · have hm : x ∈ l := by
        rcases List.mem_cons.mp h with h | h
        · exact absurd h e
        · exact h
      simp only [sumL, sumL_ind g x p h2 hm]
      simp [ind, e]; grind
theorem sumL_mass (g : Rat → Rat) {l : List Rat} (hp : l.Pairwise (· < ·)) : ∀ (rs : Prs), (∀ r ∈ rs, r.1 ∈ l) → sumL (fun a => g a * dot (ind a) rs) l = dot g rs
  | [], _ => sumL_zero fun a _ => by simp [dot]
  | r :: rs, h => by
    have e : (fun a => g a * dot (ind a) (r :: rs)) = fun a => g a * (ind a r.1 * r.2) + g a * dot (ind a) rs := by
      funext a; simp only [dot]; grind
    rw [e, sumL_add, sumL_ind g r.1 r.2 hp (h r (by simp)), sumL_mass g hp rs fun x hx => h x (by simp [hx])]
    rfl
theorem dot_of (g f : Rat → Rat) : ∀ l : List Rat, dot g (l.map fun a => (a, f a)) = sumL (fun a => g a * f a) l
  | [] => rfl
  | a :: l => by simp only [List.map_cons, dot, sumL, dot_of g f l]
def keys (rs : Prs) : List Rat := rs.map (·.1)
theorem mem_keys {rs : Prs} {a : Rat} : a ∈ keys rs ↔ ∃ r ∈ rs, r.1 = a := List.mem_map
theorem keys_join (rs : Prs) : keys (joinQ rs) = ordQ ((joinA [] rs).map (·.1)) := by
  unfold keys joinQ
  generalize ordQ ((joinA [] rs).map (·.1)) = l
  induction l with
  | nil => rfl
  | cons a l ih => simp only [List.map_cons, ih]
theorem joinQ_ord (rs : Prs) : IsOrd (keys (joinQ rs)) (keys rs) := by
  rw [keys_join]
  exact ⟨ordQ_is.asc, fun q => by rw [ordQ_is.mem, mem_joinA]; simp [keys]⟩
theorem joinQ_form (rs : Prs) : joinQ rs = (keys (joinQ rs)).map fun a => (a, dot (ind a) rs) := by
  rw [keys_join]
  unfold joinQ
  exact List.map_congr_left fun a _ => by rw [massA_dot]; grind
/-- the same amounts, with the same sums -/
structure Eqv (l m : Prs) : Prop where
  keys : ∀ a, a ∈ keys l ↔ a ∈ keys m
  dot : ∀ g, dot g l = dot g m
theorem Eqv.refl (l : Prs) : Eqv l l := ⟨fun _ => Iff.rfl, fun _ => rfl⟩
theorem Eqv.symm {l m : Prs} (h : Eqv l m) : Eqv m l := ⟨fun a => (h.keys a).symm, fun g => (h.dot g).symm⟩
theorem Eqv.trans {l m n : Prs} (h : Eqv l m) (i : Eqv m n) : Eqv l n := ⟨fun a => (h.keys a).trans (i.keys a), fun g => (h.dot g).trans (i.dot g)⟩
theorem Eqv.join (l : Prs) : Eqv (joinQ l) l := by
  have o := joinQ_ord l
  refine ⟨o.mem, fun g => ?_⟩
  rw [joinQ_form, dot_of]
  exact sumL_mass g o.asc l fun r hr => (o.mem _).mpr (mem_keys.mpr ⟨r, hr, rfl⟩)
theorem Eqv.map {l m : Prs} (h : Eqv l m) (f : Rat → Rat) : Eqv (l.map fun r => (f r.1, r.2)) (m.map fun r => (f r.1, r.2)) := by
  refine ⟨fun a => ?_, fun g => by rw [dot_map, dot_map, h.dot]⟩
  have key : ∀ {l m : Prs}, (∀ a, a ∈ MP.keys l → a ∈ MP.keys m) → a ∈ MP.keys (l.map fun r => (f r.1, r.2)) → a ∈ MP.keys (m.map fun r => (f r.1, r.2)) := by
    intro l m h ha
    obtain ⟨r, hr, rfl⟩ := mem_keys.mp ha
    obtain ⟨s, hs, rfl⟩ := List.mem_map.mp hr
    obtain ⟨t, ht, e⟩ := mem_keys.mp (h s.1 (mem_keys.mpr ⟨s, hs, rfl⟩))
    exact mem_keys.mpr ⟨_, List.mem_map.mpr ⟨t, ht, rfl⟩, by simp [e]⟩
  exact ⟨key fun a => (h.keys a).mp, key fun a => (h.keys a).mpr⟩
theorem keys_app {l m : Prs} {a : Rat} : a ∈ keys (l ++ m) ↔ a ∈ keys l ∨ a ∈ keys m := by simp [keys, or_and_right, exists_or]
theorem keys_scale {l : Prs} {c : Rat} : keys (l.map fun r => (r.1, r.2 * c)) = keys l := by simp [keys]
theorem Eqv.app {l m l' m' : Prs} (h : Eqv l l') (i : Eqv m m') : Eqv (l ++ m) (l' ++ m') :=
  ⟨fun a => by rw [keys_app, keys_app, h.keys, i.keys], fun g => by rw [dot_app, dot_app, h.dot, i.dot]⟩
theorem Eqv.scale {l m : Prs} (h : Eqv l m) (c : Rat) : Eqv (l.map fun r => (r.1, r.2 * c)) (m.map fun r => (r.1, r.2 * c)) :=
  ⟨fun a => by rw [keys_scale, keys_scale, h.keys], fun g => by rw [dot_scale, dot_scale, h.dot]⟩
theorem joinQ_congr {l m : Prs} (h : Eqv l m) : joinQ l = joinQ m := by
  have o := joinQ_ord l
  have p := joinQ_ord m
  have e : keys (joinQ l) = keys (joinQ m) := IsOrd.uniq o.asc p.asc fun k => by rw [o.mem, p.mem, h.keys]
  rw [joinQ_form l, joinQ_form m, e]
  exact List.map_congr_left fun a _ => by rw [h.dot]
/-- rows in order, with masses that are sums -/
theorem joinQ_asc {l : Prs} (h : (keys l).Pairwise (· < ·)) : joinQ l = l := by
  have o := joinQ_ord l
  have e : keys (joinQ l) = keys l := IsOrd.uniq o.asc h o.mem
  rw [joinQ_form l, e]
  have : ∀ (l : Prs), (keys l).Pairwise (· < ·) → ∀ m : Prs, (∀ r ∈ m, ∀ s ∈ l, r.1 ≠ s.1) → (keys l).map (fun a => (a, dot (ind a) (m ++ l))) = l := by
    intro l
    induction l with
    | nil => intro _ _ _; rfl
    | cons r l ih =>
      intro h m hm
      obtain ⟨h1, h2⟩ := List.pairwise_cons.mp h
      have z : ∀ (l : Prs) (a : Rat), (∀ r ∈ l, r.1 ≠ a) → dot (ind a) l = 0 := by
        intro l a
        induction l with
        | nil => intro _; rfl
        | cons r l ih => intro h; simp only [dot, ih fun x hx => h x (by simp [hx])]; simp [ind, h r (by simp)]; grind
      have e1 : dot (ind r.1) (m ++ r :: l) = r.2 := by
        rw [dot_app, z m r.1 fun x hx => hm x hx r (by simp)]
        simp only [dot]
        rw [z l r.1 fun x hx => by have := h1 x.1 (mem_keys.mpr ⟨x, hx, rfl⟩); grind]
        simp [ind]; grind
      have := ih h2 (m ++ [r]) (by
        intro x hx s hs
        rcases List.mem_append.mp hx with hx | hx
        · exact hm x hx s (by simp [hs])
        · have e : x = r := by simpa using hx
          have := h1 s.1 (mem_keys.mpr ⟨s, hs, rfl⟩)
          rw [e]; grind)
      rw [List.append_assoc, List.singleton_append] at this
      simp only [keys, List.map_cons] at this ⊢
      rw [this, e1]
  exact this l h [] (by simp)
end MP

end
section
set_option linter.all false
set_option maxRecDepth 100000
set_option maxHeartbeats 1000000
set_option exponentiation.threshold 10000
/-! Bounds of fractions. -/
namespace MP
/-- q times M is whole -/
def Wh (M : Nat) (q : Rat) : Prop := ∃ z : Int, q * M = z
def Ab (B : Nat) (q : Rat) : Prop := -(B : Rat) ≤ q ∧ q ≤ (B : Rat)
theorem mul_den (q : Rat) : q * (q.den : Rat) = q.num := by
  have := mkRat_mul q.num q.den_pos
  rwa [Rat.mkRat_self] at this
theorem Wh.dvd {M : Nat} {q : Rat} (h : Wh M q) : q.den ∣ M := by
  obtain ⟨z, hz⟩ := h
  have h1 : q.num * (M : Int) = z * q.den := by
    have h2 := mul_den q
    have h3 : (q.num : Rat) * (M : Rat) = (z : Rat) * (q.den : Rat) := by rw [← h2, ← hz]; grind
    exact_mod_cast h3
  have h2 : (q.den : Int) ∣ q.num * (M : Int) := ⟨z, by rw [h1, Int.mul_comm]⟩
  have h3 : q.den ∣ q.num.natAbs * M := by
    have := Int.natAbs_dvd_natAbs.mpr h2
    rwa [Int.natAbs_natCast, Int.natAbs_mul, Int.natAbs_natCast] at this
  exact Nat.Coprime.dvd_of_dvd_mul_left q.reduced.symm h3
theorem Wh.int (M : Nat) (c : Int) : Wh M (c : Rat) := ⟨c * M, by push_cast; rfl⟩
theorem Wh.add {M : Nat} {p q : Rat} (hp : Wh M p) (hq : Wh M q) : Wh M (p + q) := by
  obtain ⟨x, hx⟩ := hp; obtain ⟨y, hy⟩ := hq
  exact ⟨x + y, by push_cast; rw [← hx, ← hy]; grind⟩
theorem Wh.sub {M : Nat} {p q : Rat} (hp : Wh M p) (hq : Wh M q) : Wh M (p - q) := by
  obtain ⟨x, hx⟩ := hp; obtain ⟨y, hy⟩ := hq
  exact ⟨x - y, by push_cast; rw [← hx, ← hy]; grind⟩
theorem Wh.mul {M N : Nat} {p q : Rat} (hp : Wh M p) (hq : Wh N q) : Wh (M * N) (p * q) := by
  obtain ⟨x, hx⟩ := hp; obtain ⟨y, hy⟩ := hq
  exact ⟨x * y, by push_cast; rw [← hx, ← hy]; grind⟩
theorem Wh.mono {M N : Nat} {p : Rat} (hp : Wh M p) (h : M ∣ N) : Wh N p := by
  obtain ⟨x, hx⟩ := hp; obtain ⟨c, rfl⟩ := h
  exact ⟨x * c, by push_cast; rw [← hx]; grind⟩
theorem Wh.zero (M : Nat) : Wh M 0 := ⟨0, by simp⟩
theorem Wh.mk {M : Nat} (n : Int) {d : Nat} (hd : 0 < d) (h : d ∣ M) : Wh M (mkRat n d) := by
  obtain ⟨c, rfl⟩ := h
  exact ⟨n * c, by push_cast; rw [← Rat.mul_assoc, mkRat_mul n hd]⟩
theorem Ab.mono {B C : Nat} {q : Rat} (h : Ab B q) (hl : B ≤ C) : Ab C q := by
  have : (B : Rat) ≤ (C : Rat) := by exact_mod_cast hl
  exact ⟨by have := h.1; grind, by have := h.2; grind⟩
theorem Ab.add {B C : Nat} {p q : Rat} (hp : Ab B p) (hq : Ab C q) : Ab (B + C) (p + q) := by
  obtain ⟨a, b⟩ := hp; obtain ⟨c, d⟩ := hq
  constructor <;> (push_cast; grind)
theorem Ab.sub {B C : Nat} {p q : Rat} (hp : Ab B p) (hq : Ab C q) : Ab (B + C) (p - q) := by
  obtain ⟨a, b⟩ := hp; obtain ⟨c, d⟩ := hq
  constructor <;> (push_cast; grind)
theorem mul_le_abs {B C p q : Rat} (hB : 0 ≤ B) (hC : 0 ≤ C) (p1 : -B ≤ p) (p2 : p ≤ B) (q1 : -C ≤ q) (q2 : q ≤ C) : p * q ≤ B * C := by
  by_cases h : 0 ≤ q
  · have a := Rat.mul_le_mul_of_nonneg_right p2 h
    have b := Rat.mul_le_mul_of_nonneg_left q2 hB
    grind
  · have h' : 0 ≤ -q := by grind
    have a := Rat.mul_le_mul_of_nonneg_right (show -p ≤ B by grind) h'
    have b := Rat.mul_le_mul_of_nonneg_left (show -q ≤ C by grind) hB
    grind
theorem Ab.mul {B C : Nat} {p q : Rat} (hp : Ab B p) (hq : Ab C q) : Ab (B * C) (p * q) := by
  obtain ⟨a, b⟩ := hp; obtain ⟨c, d⟩ := hq
  have hB : (0 : Rat) ≤ (B : Rat) := by exact_mod_cast Nat.zero_le B
  have hC : (0 : Rat) ≤ (C : Rat) := by exact_mod_cast Nat.zero_le C
  have x := mul_le_abs hB hC a b c d
  have y := mul_le_abs hB hC (p := -p) (by grind) (by grind) c d
  constructor <;> (push_cast; grind)
theorem Ab.int {B : Nat} {c : Int} (h : c.natAbs ≤ B) : Ab B (c : Rat) := by
  have h1 : -(B : Int) ≤ c := by omega
  have h2 : c ≤ (B : Int) := by omega
  constructor
  · have : ((-(B : Int) : Int) : Rat) ≤ (c : Rat) := by exact_mod_cast h1
    push_cast at this; exact this
  · exact_mod_cast h2
theorem Ab.one {q : Rat} (h0 : 0 ≤ q) (h1 : q ≤ 1) : Ab 1 q := ⟨by push_cast; grind, by push_cast; exact h1⟩
theorem Ab.num {B M : Nat} {q : Rat} (h : Ab B q) (hd : q.den ≤ M) : q.num.natAbs ≤ B * M := by
  have h2 := mul_den q
  have hdn : (0 : Rat) ≤ (q.den : Rat) := by exact_mod_cast Nat.zero_le _
  have x := Rat.mul_le_mul_of_nonneg_right h.2 hdn
  have y := Rat.mul_le_mul_of_nonneg_right h.1 hdn
  rw [h2] at x y
  have x' : q.num ≤ (B : Int) * (q.den : Int) := by exact_mod_cast x
  have y' : -(B : Int) * (q.den : Int) ≤ q.num := by
    have : (((-(B : Int)) * (q.den : Int) : Int) : Rat) ≤ (q.num : Rat) := by push_cast; exact y
    exact_mod_cast this
  have z : (q.num.natAbs : Int) ≤ (B : Int) * (q.den : Int) := by
    have : -(B : Int) * (q.den : Int) = -((B : Int) * (q.den : Int)) := Int.neg_mul _ _
    omega
  have z2 : q.num.natAbs ≤ B * q.den := by exact_mod_cast z
  exact Nat.le_trans z2 (Nat.mul_le_mul_left _ hd)
theorem Sm_of {M B : Nat} {q : Rat} (hw : Wh M q) (ha : Ab B q) (hM : 0 < M) (hB : B * M < Big) (hM2 : M < Big) : Sm q := by
  have hd := Nat.le_of_dvd hM hw.dvd
  exact ⟨Nat.lt_of_le_of_lt (ha.num hd) hB, Nat.lt_of_le_of_lt hd hM2⟩
/-- chances: not below 0, whole over M, together at most 1 -/
def sumP : Prs → Rat
  | [] => 0
  | r :: rs => r.2 + sumP rs
structure Chs (M : Nat) (rs : Prs) : Prop where
  pos : ∀ r ∈ rs, 0 ≤ r.2
  wh : ∀ r ∈ rs, Wh M r.2
  le : sumP rs ≤ 1
theorem sumP_nonneg : ∀ {rs : Prs}, (∀ r ∈ rs, 0 ≤ r.2) → 0 ≤ sumP rs
  | [], _ => by simp [sumP]
  | r :: rs, h => by
    have a := h r (by simp)
    have b := sumP_nonneg (rs := rs) fun x hx => h x (by simp [hx])
    simp only [sumP]; grind
theorem sumP_mem : ∀ {rs : Prs}, (∀ r ∈ rs, 0 ≤ r.2) → ∀ r ∈ rs, r.2 ≤ sumP rs
  | [], _, r, h => by simp at h
  | r :: rs, h, x, hx => by
    have a := h r (by simp)
    have b := sumP_nonneg (rs := rs) fun x hx => h x (by simp [hx])
    simp only [sumP]
    rcases List.mem_cons.mp hx with rfl | hx
    · grind
    · have := sumP_mem (rs := rs) (fun x hx => h x (by simp [hx])) x hx
      grind
theorem JSm_of {M : Nat} (hM : 0 < M) (hM2 : M < Big) : ∀ (rs acc : Prs), (∀ r ∈ rs, 0 ≤ r.2) → (∀ r ∈ rs, Wh M r.2) → (∀ a, 0 ≤ (lookQ acc a).getD 0 ∧ Wh M ((lookQ acc a).getD 0) ∧ (lookQ acc a).getD 0 + sumP rs ≤ 1) → JSm acc rs
  | [], _, _, _, _ => trivial
  | r :: rs, acc, h0, hw, hg => by
    have hr0 := h0 r (by simp)
    have hrs := sumP_nonneg (rs := rs) fun x hx => h0 x (by simp [hx])
    obtain ⟨g0, gw, gs⟩ := hg r.1
    simp only [sumP] at gs
    have s1 : Sm ((lookQ acc r.1).getD 0) := Sm_of gw (Ab.one g0 (by grind)) hM (by omega) hM2
    have s2 : Sm r.2 := Sm_of (hw r (by simp)) (Ab.one hr0 (by grind)) hM (by omega) hM2
    refine ⟨s1, s2, JSm_of hM hM2 rs _ (fun x hx => h0 x (by simp [hx])) (fun x hx => hw x (by simp [hx])) fun a => ?_⟩
    rw [lookQ_add]
    by_cases e : r.1 = a
    · rw [if_pos e, Option.getD_some]
      exact ⟨by grind, gw.add (hw r (by simp)), by grind⟩
    · rw [if_neg e]
      obtain ⟨a1, a2, a3⟩ := hg a
      simp only [sumP] at a3
      exact ⟨a1, a2, by grind⟩
theorem Chs.jsm {M : Nat} {rs : Prs} (h : Chs M rs) (hM : 0 < M) (hM2 : M < Big) : JSm [] rs :=
  JSm_of hM hM2 rs [] h.pos h.wh fun a => ⟨by simp [lookQ_nil], by simp [lookQ_nil]; exact Wh.zero M, by simp [lookQ_nil]; have := h.le; grind⟩
theorem sumQ_add : ∀ (qs : List Rat) (a : Rat), sumQ a qs = a + sumQ 0 qs
  | [], a => by simp [sumQ]; grind
  | q :: r, a => by simp only [sumQ]; rw [sumQ_add r (a + q), sumQ_add r (0 + q)]; grind
def asum (f : Rat → Rat) (qs : List Rat) : Rat := sumQ 0 (qs.map f)
/-- sums on the way are small: numbers not below 0, together at most B -/
theorem SmAll_of {M B : Nat} (hM : 0 < M) (hB : B * M < Big) (hM2 : M < Big) : ∀ (qs : List Rat) (a : Rat) (C : List Nat), Wh M a → (∀ q ∈ qs, Wh M q) → (∀ n, Ab B (sumQ a (qs.take n))) → (∀ q ∈ qs, Ab B q) → SmAll a qs
  | [], a, _, ha, _, h, _ => Sm_of ha (h 0) hM hB hM2
  | q :: r, a, C, ha, hq, h, hb => by
    refine ⟨Sm_of ha (h 0) hM hB hM2, Sm_of (hq q (by simp)) (hb q (by simp)) hM hB hM2, SmAll_of hM hB hM2 r (a + q) C (ha.add (hq q (by simp))) (fun x hx => hq x (by simp [hx])) (fun n => ?_) fun x hx => hb x (by simp [hx])⟩
    exact h (n + 1)
end MP

end
section
set_option linter.all false
set_option maxRecDepth 100000
set_option maxHeartbeats 1000000
set_option exponentiation.threshold 10000
/-! Rows with bounds; the rows of a contract. -/
namespace MP
open PySem (Str)
structure Dis (MA BA MC n : Nat) (t : Rat) (rs : Prs) : Prop where
  amt : ∀ r ∈ rs, Wh MA r.1 ∧ Ab BA r.1
  pos : ∀ r ∈ rs, 0 < r.2
  wh : ∀ r ∈ rs, Wh MC r.2
  tot : sumP rs = t
  len : rs.length ≤ n
theorem sumP_dot : ∀ rs : Prs, sumP rs = dot (fun _ => 1) rs
  | [] => rfl
  | r :: rs => by simp only [sumP, dot, sumP_dot rs]; grind
theorem dot_ind_wh {M : Nat} (a : Rat) : ∀ {rs : Prs}, (∀ r ∈ rs, Wh M r.2) → Wh M (dot (ind a) rs)
  | [], _ => Wh.zero M
  | r :: rs, h => by
    have ih := dot_ind_wh a (rs := rs) fun x hx => h x (by simp [hx])
    have hr := h r (by simp)
    simp only [dot]
    refine Wh.add ?_ ih
    unfold ind
    split
    · rw [Rat.one_mul]; exact hr
    · rw [Rat.zero_mul]; exact Wh.zero M
theorem dot_ind_nonneg (a : Rat) : ∀ {rs : Prs}, (∀ r ∈ rs, 0 < r.2) → 0 ≤ dot (ind a) rs
  | [], _ => by simp [dot]
  | r :: rs, h => by
    have ih := dot_ind_nonneg a (rs := rs) fun x hx => h x (by simp [hx])
    have hr := h r (by simp)
    simp only [dot]
    by_cases e : r.1 = a
    · rw [show ind a r.1 = 1 from if_pos e]; grind
    · rw [show ind a r.1 = 0 from if_neg e]; grind
theorem dot_ind_pos {a : Rat} : ∀ {rs : Prs}, (∀ r ∈ rs, 0 < r.2) → a ∈ keys rs → 0 < dot (ind a) rs
  | [], _, h => by simp [keys] at h
  | r :: rs, h, ha => by
    have ih := dot_ind_nonneg a (rs := rs) fun x hx => h x (by simp [hx])
    have hr := h r (by simp)
    simp only [dot]
    by_cases e : r.1 = a
    · rw [show ind a r.1 = 1 from if_pos e]; grind
    · have hm : a ∈ keys rs := by
        simp only [keys, List.map_cons, List.mem_cons] at ha
        rcases ha with rfl | ha
        · exact absurd rfl e
        · exact ha
      have := dot_ind_pos (rs := rs) (fun x hx => h x (by simp [hx])) hm
      rw [show ind a r.1 = 0 from if_neg e]; grind
theorem asc_len {l m : List Rat} (hp : l.Pairwise (· < ·)) (h : ∀ a ∈ l, a ∈ m) : l.length ≤ m.length := by
  induction l generalizing m with
  | nil => simp
  | cons a l ih =>
    obtain ⟨h1, h2⟩ := List.pairwise_cons.mp hp
    have ha := h a (by simp)
    have := ih h2 (m := m.erase a) fun b hb => by
      have : b ≠ a := by have := h1 b hb; grind
      exact (List.mem_erase_of_ne this).mpr (h b (by simp [hb]))
    rw [List.length_erase_of_mem ha] at this
    have : 0 < m.length := List.length_pos_of_mem ha
    simp; omega
theorem Dis.join {MA BA MC n : Nat} {t : Rat} {rs : Prs} (h : Dis MA BA MC n t rs) : Dis MA BA MC n t (joinQ rs) := by
  have o := joinQ_ord rs
  have f := joinQ_form rs
  have hk : ∀ r ∈ joinQ rs, r.1 ∈ keys rs ∧ r.2 = dot (ind r.1) rs := fun r hr => by
    refine ⟨(o.mem _).mp (mem_keys.mpr ⟨r, hr, rfl⟩), ?_⟩
    rw [f] at hr
    obtain ⟨a, _, rfl⟩ := List.mem_map.mp hr
    rfl
  refine ⟨fun r hr => ?_, fun r hr => ?_, fun r hr => ?_, ?_, ?_⟩
  · obtain ⟨s, hs, e⟩ := mem_keys.mp (hk r hr).1
    rw [← e]; exact h.amt s hs
  · rw [(hk r hr).2]; exact dot_ind_pos h.pos (hk r hr).1
  · rw [(hk r hr).2]; exact dot_ind_wh _ h.wh
  · rw [sumP_dot, (Eqv.join rs).dot, ← sumP_dot]; exact h.tot
  · have := asc_len o.asc fun a ha => (o.mem a).mp ha
    simp only [keys, List.length_map] at this
    exact Nat.le_trans this h.len
theorem Dis.map {MA BA MC n MA' BA' : Nat} {t : Rat} {rs : Prs} (h : Dis MA BA MC n t rs) {f : Rat → Rat} (hf : ∀ r ∈ rs, Wh MA' (f r.1) ∧ Ab BA' (f r.1)) : Dis MA' BA' MC n t (rs.map fun r => (f r.1, r.2)) := by
  refine ⟨fun r hr => ?_, fun r hr => ?_, fun r hr => ?_, ?_, by rw [List.length_map]; exact h.len⟩
  · obtain ⟨s, hs, rfl⟩ := List.mem_map.mp hr; exact hf s hs
  · obtain ⟨s, hs, rfl⟩ := List.mem_map.mp hr; exact h.pos s hs
  · obtain ⟨s, hs, rfl⟩ := List.mem_map.mp hr; exact h.wh s hs
  · rw [sumP_dot, dot_map, ← sumP_dot]; exact h.tot
theorem Dis.scale {MA BA MC n M : Nat} {t c : Rat} {rs : Prs} (h : Dis MA BA MC n t rs) (h0 : 0 < c) (hc : Wh M c) : Dis MA BA (MC * M) n (c * t) (rs.map fun r => (r.1, r.2 * c)) := by
  refine ⟨fun r hr => ?_, fun r hr => ?_, fun r hr => ?_, ?_, by rw [List.length_map]; exact h.len⟩
  · obtain ⟨s, hs, rfl⟩ := List.mem_map.mp hr; exact h.amt s hs
  · obtain ⟨s, hs, rfl⟩ := List.mem_map.mp hr; exact Rat.mul_pos (h.pos s hs) h0
  · obtain ⟨s, hs, rfl⟩ := List.mem_map.mp hr; exact (h.wh s hs).mul hc
  · rw [sumP_dot, dot_scale, ← sumP_dot, h.tot]
theorem Dis.app {MA BA MC n m : Nat} {t u : Rat} {rs ss : Prs} (h : Dis MA BA MC n t rs) (g : Dis MA BA MC m u ss) : Dis MA BA MC (n + m) (t + u) (rs ++ ss) := by
  refine ⟨fun r hr => ?_, fun r hr => ?_, fun r hr => ?_, ?_, by rw [List.length_append]; exact Nat.add_le_add h.len g.len⟩
  · rcases List.mem_append.mp hr with hr | hr; exact h.amt r hr; exact g.amt r hr
  · rcases List.mem_append.mp hr with hr | hr; exact h.pos r hr; exact g.pos r hr
  · rcases List.mem_append.mp hr with hr | hr; exact h.wh r hr; exact g.wh r hr
  · rw [sumP_dot, dot_app, ← sumP_dot, ← sumP_dot, h.tot, g.tot]
theorem Dis.mono {MA BA MC n MA' BA' MC' m : Nat} {t : Rat} {rs : Prs} (h : Dis MA BA MC n t rs) (h1 : MA ∣ MA') (h2 : BA ≤ BA') (h3 : MC ∣ MC') (h4 : n ≤ m) : Dis MA' BA' MC' m t rs :=
  ⟨fun r hr => ⟨(h.amt r hr).1.mono h1, (h.amt r hr).2.mono h2⟩, h.pos, fun r hr => (h.wh r hr).mono h3, h.tot, Nat.le_trans h.len h4⟩
theorem Dis.jok {MA BA MC n : Nat} {t : Rat} {rs : Prs} (h : Dis MA BA MC n t rs) (ht : t ≤ 1) (hA : 0 < MA) (hAB : BA * MA < Big) (hA2 : MA < Big) (hC : 0 < MC) (hC2 : MC < Big) (hn : n < 4000) : JOk MA rs where
  pos := hA
  big := hA2
  amt := fun r hr => ⟨(h.amt r hr).1.dvd, Nat.lt_of_le_of_lt ((h.amt r hr).2.num (Nat.le_of_dvd hA (h.amt r hr).1.dvd)) hAB⟩
  len := Nat.lt_of_le_of_lt h.len hn
  sm := Chs.jsm ⟨fun r hr => by have := h.pos r hr; grind, h.wh, by rw [h.tot]; exact ht⟩ hC hC2
/-! contracts -/
def l12 : Nat := 27720
def l48 : Nat := Nat.lcm (Nat.lcm (Nat.lcm (48 * 47 * 46 * 45) (44 * 43 * 42 * 41)) (Nat.lcm (40 * 39 * 38 * 37) (36 * 35 * 34 * 33))) (Nat.lcm (Nat.lcm (32 * 31 * 30 * 29) (28 * 27 * 26 * 25)) (24 * 23 * 22 * 21 * 20 * 19 * 18 * 17))
theorem dvd48 {w : Nat} (h1 : 1 ≤ w) (h2 : w ≤ 48) : w ∣ l48 := by
  have : ∀ w, w < 49 → 1 ≤ w → w ∣ l48 := by decide +kernel
  exact this w (by omega) h1
theorem dvd12 {w : Nat} (h1 : 1 ≤ w) (h2 : w ≤ 12) : w ∣ l12 := by
  have : ∀ w, w < 13 → 1 ≤ w → w ∣ l12 := by decide +kernel
  exact this w (by omega) h1
def mA (d : Nat) : Nat := l12 ^ d
def bA (d : Nat) : Nat := 100000 * 14 ^ d
def mC (d : Nat) : Nat := l48 ^ d
theorem mA_pos (d : Nat) : 0 < mA d := Nat.pow_pos (by decide)
theorem mC_pos (d : Nat) : 0 < mC d := Nat.pow_pos (by decide +kernel)
theorem mA_lt {d : Nat} (h : d ≤ 20) : mA d < Big := Nat.lt_of_le_of_lt (Nat.pow_le_pow_right (by decide) h) (by decide +kernel)
theorem mC_lt {d : Nat} (h : d ≤ 20) : mC d < Big := Nat.lt_of_le_of_lt (Nat.pow_le_pow_right (by decide +kernel) h) (by decide +kernel)
theorem bA_mA_lt {d : Nat} (h : d ≤ 20) : bA d * mA d < Big :=
  Nat.lt_of_le_of_lt (Nat.mul_le_mul (Nat.mul_le_mul_left _ (Nat.pow_le_pow_right (by decide) h)) (Nat.pow_le_pow_right (by decide) h)) (show bA 20 * mA 20 < Big by decide +kernel)
theorem mA_dvd {d e : Nat} (h : d ≤ e) : mA d ∣ mA e := Nat.pow_dvd_pow _ h
theorem mC_dvd {d e : Nat} (h : d ≤ e) : mC d ∣ mC e := Nat.pow_dvd_pow _ h
theorem bA_le {d e : Nat} (h : d ≤ e) : bA d ≤ bA e := Nat.mul_le_mul_left _ (Nat.pow_le_pow_right (by decide) h)
theorem bA_succ (d : Nat) : bA (d + 1) = 14 * bA d := by unfold bA; rw [Nat.pow_succ]; omega
theorem bA_ge (d : Nat) : 100000 ≤ bA d := by
  unfold bA
  have : 0 < 14 ^ d := Nat.pow_pos (by decide)
  omega
theorem Sm_amt {d : Nat} (hd : d ≤ 20) {q : Rat} (h1 : Wh (mA d) q) (h2 : Ab (bA d) q) : Sm q := Sm_of h1 h2 (mA_pos d) (bA_mA_lt hd) (mA_lt hd)
/-- an amount that a contract so deep can pay -/
def Amt (d : Nat) (q : Rat) : Prop := Wh (mA d) q ∧ Ab (bA d) q
theorem Amt.sm {d : Nat} {q : Rat} (h : Amt d q) (hd : d ≤ 20) : Sm q := Sm_amt hd h.1 h.2
theorem Amt.up {d e : Nat} {q : Rat} (h : Amt d q) (hd : d ≤ e) : Amt e q := ⟨h.1.mono (mA_dvd hd), h.2.mono (bA_le hd)⟩
theorem Amt.int {c : Int} (hc : inR c (-1000) 1000) (d : Nat) : Amt d (c : Rat) := ⟨Wh.int _ _, Ab.int (by have := bA_ge d; unfold inR at hc; omega)⟩
theorem part_wh {n m : Int} (hm : inR m 1 12) : Wh l12 (mkRat n m.toNat) := Wh.mk n (by unfold inR at hm; omega) (dvd12 (by unfold inR at hm; omega) (by unfold inR at hm; omega))
theorem part_ab {n m : Int} (hn : inR n 0 12) (hm : inR m 1 12) : 0 ≤ mkRat n m.toNat ∧ mkRat n m.toNat ≤ 12 := by
  have hm0 : 0 < m.toNat := by unfold inR at hm; omega
  have e := mkRat_mul n hm0
  have hm1 : (1 : Rat) ≤ (m.toNat : Rat) := by exact_mod_cast hm0
  have h0 : (0 : Rat) ≤ (n : Rat) := by exact_mod_cast hn.1
  have h12 : (n : Rat) ≤ 12 := by exact_mod_cast hn.2
  generalize mkRat n m.toNat = p at e ⊢
  generalize (m.toNat : Rat) = x at e hm1
  constructor
  · rcases Decidable.em (0 ≤ p) with h | h
    · exact h
    · have := Rat.mul_le_mul_of_nonneg_left hm1 (show 0 ≤ -p by grind)
      grind
  · rcases Decidable.em (p ≤ 12) with h | h
    · exact h
    · have hp : 12 < p := Rat.not_le.mp h
      have := Rat.mul_le_mul_of_nonneg_left hm1 (show 0 ≤ p by grind)
      grind
theorem part_Ab {n m : Int} (hn : inR n 0 12) (hm : inR m 1 12) : Ab 12 (mkRat n m.toNat) := ⟨by have := (part_ab hn hm).1; push_cast; grind, by have := (part_ab hn hm).2; push_cast; exact this⟩
theorem gap_amt {d : Nat} {c : Int} {a : Rat} (hc : inR c (-1000) 1000) (ha : Amt d a) : Wh (mA d) ((c : Rat) - a) ∧ Ab (bA d + 1000) ((c : Rat) - a) := by
  refine ⟨(Wh.int _ _).sub ha.1, ?_⟩
  have := (Ab.int (B := 1000) (c := c) (by unfold inR at hc; omega)).sub ha.2
  exact this.mono (by omega)
theorem mA_succ (d : Nat) : mA (d + 1) = mA d * l12 := Nat.pow_succ ..
theorem share_amt {d : Nat} {n m : Int} {a : Rat} (hn : inR n 0 12) (hm : inR m 1 12) (hw : Wh (mA d) a) (ha : Ab (bA d + 1000) a) : Amt (d + 1) (mkRat n m.toNat * a) := by
  refine ⟨?_, ?_⟩
  · rw [mA_succ, Nat.mul_comm]; exact (part_wh hm).mul hw
  · refine ((part_Ab hn hm).mul ha).mono ?_
    have := bA_ge d; rw [bA_succ]; omega
theorem pay_amt {c : Ctr} {d : Nat} (hc : c.ok (d + 1)) {a : Rat} (ha : Amt d a) : Amt (d + 1) (payQ c a) := by
  cases c with
  | sure _ => exact ha.up (by omega)
  | draw _ => exact ha.up (by omega)
  | cap i c =>
    obtain ⟨h1, _⟩ := hc
    simp only [payQ]
    split
    · exact Amt.int h1 _
    · exact ha.up (by omega)
  | floor i c =>
    obtain ⟨h1, _⟩ := hc
    simp only [payQ]
    split
    · exact Amt.int h1 _
    · exact ha.up (by omega)
  | more i c =>
    obtain ⟨h1, _⟩ := hc
    simp only [payQ]
    refine ⟨((ha.1.mono (mA_dvd (by omega))).add (Wh.int _ _)), ?_⟩
    refine (ha.2.add (Ab.int (B := 1000) (c := i) (by unfold inR at h1; omega))).mono ?_
    have := bA_ge d; rw [bA_succ]; omega
  | share n m c =>
    obtain ⟨⟨h1, h2⟩, _⟩ := hc
    exact share_amt h1 h2 ha.1 (ha.2.mono (by omega))
  | insured n m i c =>
    obtain ⟨⟨h1, h2, _, h3⟩, _⟩ := hc
    simp only [payQ]
    obtain ⟨g1, g2⟩ := gap_amt h3 ha
    have hx : Wh (mA d) (if 0 < (i : Rat) - a then (i : Rat) - a else 0) ∧ Ab (bA d + 1000) (if 0 < (i : Rat) - a then (i : Rat) - a else 0) := by
      split
      · exact ⟨g1, g2⟩
      · refine ⟨Wh.zero _, ?_⟩
        have := Ab.int (B := bA d + 1000) (c := 0) (by simp)
        simpa using this
    refine ⟨(ha.1.mono (mA_dvd (by omega))).add ?_, ?_⟩
    · rw [mA_succ, Nat.mul_comm]; exact (part_wh h2).mul hx.1
    · refine (ha.2.add ((part_Ab h1 h2).mul hx.2)).mono ?_
      have := bA_ge d; rw [bA_succ]; omega
end MP

end
section
set_option linter.all false
set_option maxRecDepth 100000
set_option maxHeartbeats 1000000
set_option exponentiation.threshold 10000
/-! The rows of a contract: bounds, and what the program and the law compute. -/
namespace MP
open PySem (Str)
mutual
/-- the law's pairs -/
def paysQ : Ctr → Prs
  | .sure c => [((c : Rat), 1)]
  | .draw l => paysL l.sum l
  | .cap a c => (paysQ c).map fun r => (payQ (.cap a c) r.1, r.2)
  | .floor a c => (paysQ c).map fun r => (payQ (.floor a c) r.1, r.2)
  | .more a c => (paysQ c).map fun r => (payQ (.more a c) r.1, r.2)
  | .share n d c => (paysQ c).map fun r => (payQ (.share n d c) r.1, r.2)
  | .insured n d a c => (paysQ c).map fun r => (payQ (.insured n d a c) r.1, r.2)
def paysL (W : Int) : CtrL → Prs
  | .nil => []
  | .cons w c r => (paysQ c).map (fun x => (x.1, x.2 * mkRat w W.toNat)) ++ paysL W r
end
theorem joinQ_one (c p : Rat) : joinQ [(c, p)] = [(c, p)] := joinQ_asc (by simp [keys])
mutual
theorem rows_eqv : ∀ c : Ctr, rowsQ c = joinQ (paysQ c)
  | .sure c => by rw [paysQ, joinQ_one, rowsQ]
  | .draw l => by rw [paysQ, rowsQ]; exact joinQ_congr (pairs_eqv _ l)
  | .cap a c => by rw [paysQ, rowsQ, rows_eqv c]; exact joinQ_congr ((Eqv.join _).map _)
  | .floor a c => by rw [paysQ, rowsQ, rows_eqv c]; exact joinQ_congr ((Eqv.join _).map _)
  | .more a c => by rw [paysQ, rowsQ, rows_eqv c]; exact joinQ_congr ((Eqv.join _).map _)
  | .share n d c => by rw [paysQ, rowsQ, rows_eqv c]; exact joinQ_congr ((Eqv.join _).map _)
  | .insured n d a c => by rw [paysQ, rowsQ, rows_eqv c]; exact joinQ_congr ((Eqv.join _).map _)
theorem pairs_eqv : ∀ (W : Int) (l : CtrL), Eqv (pairsQ W l) (paysL W l)
  | W, .nil => by rw [pairsQ, paysL]; exact Eqv.refl _
  | W, .cons w c r => by rw [pairsQ, paysL, rows_eqv c]; exact ((Eqv.join _).scale _).app (pairs_eqv W r)
end
theorem sum_bnd : ∀ {l : CtrL} {d : Nat}, l.ok d → (l.len : Int) ≤ l.sum ∧ l.sum ≤ 12 * l.len
  | .nil, _, _ => by simp [CtrL.len, CtrL.sum]
  | .cons w c r, d, h => by
    obtain ⟨h1, _, h3⟩ := h
    have := sum_bnd h3
    unfold inR at h1
    simp only [CtrL.len, CtrL.sum]; omega
theorem mkRat_add_same (a b : Int) {W : Nat} (hW : 0 < W) : mkRat a W + mkRat b W = mkRat (a + b) W := by
  have h0 : (W : Rat) ≠ 0 := by exact_mod_cast (by omega : W ≠ 0)
  have e : (mkRat a W + mkRat b W) * W = mkRat (a + b) W * W := by
    rw [mkRat_mul _ hW, Rat.add_mul, mkRat_mul _ hW, mkRat_mul _ hW]; push_cast; rfl
  calc mkRat a W + mkRat b W = (mkRat a W + mkRat b W) * W / W := by rw [Rat.mul_div_cancel h0]
    _ = mkRat (a + b) W := by rw [e, Rat.mul_div_cancel h0]
theorem mkRat_pos' {w : Int} {W : Nat} (hw : 0 < w) (hW : 0 < W) : 0 < mkRat w W := by
  have := mkRat_lt hW hw
  rwa [Rat.zero_mkRat] at this
theorem mkRat_self' {W : Nat} (hW : 0 < W) : mkRat (W : Int) W = 1 := by
  have h0 : (W : Rat) ≠ 0 := by exact_mod_cast (by omega : W ≠ 0)
  have e := mkRat_mul (W : Int) hW
  have : mkRat (W : Int) W = mkRat (W : Int) W * W / W := by rw [Rat.mul_div_cancel h0]
  rw [this, e]
  rw [Rat.div_def]
  exact_mod_cast Rat.mul_inv_cancel _ h0
theorem weight_wh {w : Int} {W : Nat} (hW : 1 ≤ W) (hW2 : W ≤ 48) : Wh l48 (mkRat w W) := Wh.mk w hW (dvd48 hW hW2)
theorem mC_succ (d : Nat) : mC (d + 1) = mC d * l48 := Nat.pow_succ ..
mutual
theorem pays_dis : ∀ (c : Ctr) (d : Nat), c.ok d → Dis (mA d) (bA d) (mC d) c.ends 1 (paysQ c)
  | _, 0, h => by cases ‹Ctr› <;> simp [Ctr.ok] at h
  | .sure c, d + 1, h => by
    rw [paysQ]
    refine ⟨?_, ?_, ?_, ?_, ?_⟩
    · intro r hr; have e : r = ((c : Rat), 1) := by simpa using hr
      rw [e]; exact Amt.int h _
    · intro r hr; have e : r = ((c : Rat), 1) := by simpa using hr
      rw [e]; show (0 : Rat) < 1; decide +kernel
    · intro r hr; have e : r = ((c : Rat), 1) := by simpa using hr
      rw [e]; exact Wh.int _ 1
    · simp only [sumP]; grind
    · simp [Ctr.ends]
  | .draw l, d + 1, h => by
    obtain ⟨⟨h1, h2⟩, h3⟩ := h
    have hb := sum_bnd h3
    rw [paysQ]
    have := paysL_dis l d l.sum.toNat h3 (by omega) (by omega)
    rw [Int.toNat_of_nonneg (by omega)] at this
    have e : mkRat l.sum l.sum.toNat = 1 := by
      have := mkRat_self' (W := l.sum.toNat) (by omega)
      rwa [Int.toNat_of_nonneg (by omega)] at this
    rw [e] at this
    exact this.mono (mA_dvd (by omega)) (bA_le (by omega)) (Nat.dvd_refl _) (Nat.le_refl _)
  | .cap a c, d + 1, h => by
    have ih := pays_dis c d h.2
    rw [paysQ]
    exact (ih.map fun r hr => pay_amt h (ih.amt r hr)).mono (Nat.dvd_refl _) (Nat.le_refl _) (mC_dvd (by omega)) (Nat.le_refl _)
  | .floor a c, d + 1, h => by
    have ih := pays_dis c d h.2
    rw [paysQ]
    exact (ih.map fun r hr => pay_amt h (ih.amt r hr)).mono (Nat.dvd_refl _) (Nat.le_refl _) (mC_dvd (by omega)) (Nat.le_refl _)
  | .more a c, d + 1, h => by
    have ih := pays_dis c d h.2
    rw [paysQ]
    exact (ih.map fun r hr => pay_amt h (ih.amt r hr)).mono (Nat.dvd_refl _) (Nat.le_refl _) (mC_dvd (by omega)) (Nat.le_refl _)
  | .share n m c, d + 1, h => by
    have ih := pays_dis c d h.2
    rw [paysQ]
    exact (ih.map fun r hr => pay_amt h (ih.amt r hr)).mono (Nat.dvd_refl _) (Nat.le_refl _) (mC_dvd (by omega)) (Nat.le_refl _)
  | .insured n m a c, d + 1, h => by
    have ih := pays_dis c d h.2
    rw [paysQ]
    exact (ih.map fun r hr => pay_amt h (ih.amt r hr)).mono (Nat.dvd_refl _) (Nat.le_refl _) (mC_dvd (by omega)) (Nat.le_refl _)
theorem paysL_dis : ∀ (l : CtrL) (d W : Nat), l.ok d → 1 ≤ W → W ≤ 48 → Dis (mA d) (bA d) (mC (d + 1)) l.ends (mkRat l.sum W) (paysL W l)
  | .nil, d, W, _, h1, _ => by
    rw [paysL, CtrL.sum, Rat.zero_mkRat]
    exact ⟨by simp, by simp, by simp, rfl, by simp⟩
  | .cons w c r, d, W, h, h1, h2 => by
    obtain ⟨g1, g2, g3⟩ := h
    have ih := pays_dis c d g2
    have ihr := paysL_dis r d W g3 h1 h2
    rw [paysL, CtrL.sum, ← mkRat_add_same w r.sum h1, Int.toNat_natCast]
    have := ih.scale (c := mkRat w W) (M := l48) (mkRat_pos' (by unfold inR at g1; omega) h1) (weight_wh h1 h2)
    rw [Rat.mul_one, ← mC_succ] at this
    exact this.app ihr
end
theorem rows_dis {c : Ctr} {d : Nat} (h : c.ok d) : Dis (mA d) (bA d) (mC d) c.ends 1 (rowsQ c) := by
  rw [rows_eqv]; exact (pays_dis c d h).join
theorem pairs_dis : ∀ (l : CtrL) (d W : Nat), l.ok d → 1 ≤ W → W ≤ 48 → Dis (mA d) (bA d) (mC (d + 1)) l.ends (mkRat l.sum W) (pairsQ W l)
  | .nil, d, W, _, h1, _ => by
    rw [pairsQ, CtrL.sum, Rat.zero_mkRat]
    exact ⟨by simp, by simp, by simp, rfl, by simp⟩
  | .cons w c r, d, W, h, h1, h2 => by
    obtain ⟨g1, g2, g3⟩ := h
    have ih := rows_dis g2
    have ihr := pairs_dis r d W g3 h1 h2
    rw [pairsQ, CtrL.sum, ← mkRat_add_same w r.sum h1, Int.toNat_natCast]
    have := ih.scale (c := mkRat w W) (M := l48) (mkRat_pos' (by unfold inR at g1; omega) h1) (weight_wh h1 h2)
    rw [Rat.mul_one, ← mC_succ] at this
    exact this.app ihr
/-! the program -/
theorem Sm_int' {c lo hi : Int} (h : inR c (-1000) 1000) : Sm (c : Rat) := (Amt.int h 0).sm (by omega)
theorem Sm_part {n m : Int} (hn : inR n 0 12) (hm : inR m 1 12) : Sm (mkRat n m.toNat) := Sm_of (part_wh hm) (part_Ab hn hm) (by decide) (by decide +kernel) (by decide +kernel)
theorem Dis.jok' {d n : Nat} {rs : Prs} {t : Rat} (h : Dis (mA d) (bA d) (mC d) n t rs) (ht : t ≤ 1) (hd : d ≤ 20) (hn : n < 4000) : JOk (mA d) rs :=
  h.jok ht (mA_pos d) (bA_mA_lt hd) (mA_lt hd) (mC_pos d) (mC_lt hd) hn
theorem paid_ok {T : Tab} (F : HasPaid T) (k : Nat) {c : Ctr} {d : Nat} (hd : d ≤ 19) (hc : c.ok (d + 1)) (hs : ∀ a, c ≠ .sure a) (hl : ∀ l, c ≠ .draw l) {a : Rat} (ha : Amt d a) :
    call T (k + 4) (PySem.Str.ofString "paid") [] [c.d, fr a] = .ok (.v (fr (payQ c a)), []) := by
  have sa := ha.sm (by omega)
  cases c with
  | sure a => exact absurd rfl (hs a)
  | draw l => exact absurd rfl (hl l)
  | cap i c => exact paid_cap k F sa ((Amt.int hc.1 0).sm (by omega))
  | floor i c => exact paid_floor k F sa ((Amt.int hc.1 0).sm (by omega))
  | more i c => exact paid_more k F sa ((Amt.int hc.1 0).sm (by omega))
  | share n m c =>
    obtain ⟨⟨h1, h2⟩, _⟩ := hc
    have hm : (m.toNat : Int) = m := Int.toNat_of_nonneg (by unfold inR at h2; omega)
    have := paid_share k F (n := n) (d := m.toNat) (b := c) (by unfold inR at h2; omega) (Nat.lt_of_le_of_lt (show m.toNat ≤ 12 by unfold inR at h2; omega) (by decide +kernel)) sa (Sm_part h1 h2)
    rwa [hm] at this
  | insured n m i c =>
    obtain ⟨⟨h1, h2, _, h3⟩, _⟩ := hc
    have hm : (m.toNat : Int) = m := Int.toNat_of_nonneg (by unfold inR at h2; omega)
    obtain ⟨g1, g2⟩ := gap_amt h3 ha
    have gs : Sm ((i : Rat) - a) := Sm_amt (d := d + 1) (by omega) (g1.mono (mA_dvd (by omega))) (g2.mono (by have := bA_ge d; rw [bA_succ]; omega))
    have hx : Wh (mA d) (if 0 < (i : Rat) - a then (i : Rat) - a else 0) ∧ Ab (bA d + 1000) (if 0 < (i : Rat) - a then (i : Rat) - a else 0) := by
      split
      · exact ⟨g1, g2⟩
      · refine ⟨Wh.zero _, ?_⟩
        have := Ab.int (B := bA d + 1000) (c := 0) (by simp)
        simpa using this
    have := paid_ins k F (n := n) (c := i) (d := m.toNat) (b := c) (by unfold inR at h2; omega) (Nat.lt_of_le_of_lt (show m.toNat ≤ 12 by unfold inR at h2; omega) (by decide +kernel)) sa (Sm_part h1 h2) ((Amt.int h3 0).sm (by omega)) gs ((share_amt h1 h2 hx.1 hx.2).sm (by omega))
    rwa [hm] at this
theorem rows_sure {T : Tab} (F : HasRows T) (k : Nat) (a : Int) : call T (k + 1) (PySem.Str.ofString "rows_of") [] [(Ctr.sure a).d] = .ok (.o ((rowsQ (.sure a)).map rowD), []) := by
  rw [call_of F.rows_of]
  generalize call T k = C
  unfold run Lib.rows_of
  have e : rowD ((a : Rat), 1) = .tup [.tup [.int a, .int 1], .tup [.int 1, .int 1]] := by unfold rowD; rw [← fr_int]; rfl
  simp [MF.start, Ctr.d, cmp_str, rowsQ, e]
mutual
theorem rows_ok {T : Tab} (F : HasRows T) (k : Nat) : ∀ (c : Ctr) (d : Nat), d ≤ 18 → c.ok d → c.ends < 4000 → call T (k + 5 + d) (PySem.Str.ofString "rows_of") [] [c.d] = .ok (.o ((rowsQ c).map rowD), [])
  | c, 0, _, h, _ => by cases c <;> simp [Ctr.ok] at h
  | .sure a, d + 1, hd, h, hn => rows_sure F (k + 5 + d) a
  | .draw l, d + 1, hd, h, hn => by
    obtain ⟨⟨h1, h2⟩, h3⟩ := h
    have hb := sum_bnd h3
    have hp := pairs_dis l d l.sum.toNat h3 (by omega) (by omega)
    have e : mkRat l.sum l.sum.toNat = 1 := by
      have := mkRat_self' (W := l.sum.toNat) (by omega)
      rwa [Int.toNat_of_nonneg (by omega)] at this
    rw [e] at hp
    have hj := (hp.mono (mA_dvd (by omega : d ≤ d + 1)) (bA_le (by omega)) (Nat.dvd_refl _) (Nat.le_refl _)).jok' (by decide +kernel) (by omega) hn
    have hpo := parts_ok F k l d l.sum.toNat (by omega) h3 (by omega) (by omega) hn
    have := rows_draw F (k + d) (l := l) (W := l.sum.toNat) (Int.toNat_of_nonneg (by omega)).symm (by omega) (Nat.lt_of_le_of_lt (show l.sum.toNat ≤ 48 by omega) (by decide +kernel)) hpo hj
    rw [Int.toNat_of_nonneg (by omega)] at this
    rw [show k + 5 + (d + 1) = k + d + 6 from by omega, this, rowsQ]
  | .cap a c, d + 1, hd, h, hn => by
    have ih := rows_ok F k c d (by omega) h.2 hn
    have hr := rows_dis h.2
    have hj := ((hr.map fun r hx => pay_amt h (hr.amt r hx)).mono (Nat.dvd_refl _) (Nat.le_refl _) (mC_dvd (by omega : d ≤ d + 1)) (Nat.le_refl _)).jok' (by decide +kernel) (by omega) hn
    rw [show k + 5 + (d + 1) = k + d + 6 from by omega, rowsQ]
    rw [show k + 5 + d = k + d + 5 from by omega] at ih
    exact rows_op F (k + d) (c := .cap a c) ⟨_, _, rfl, by simp, by simp, by simp⟩ rfl ih (fun r hx => paid_ok F.toHasPaid (k + d + 1) (by omega) h (fun _ => by simp) (fun _ => by simp) (hr.amt r hx)) hj
  | .floor a c, d + 1, hd, h, hn => by
    have ih := rows_ok F k c d (by omega) h.2 hn
    have hr := rows_dis h.2
    have hj := ((hr.map fun r hx => pay_amt h (hr.amt r hx)).mono (Nat.dvd_refl _) (Nat.le_refl _) (mC_dvd (by omega : d ≤ d + 1)) (Nat.le_refl _)).jok' (by decide +kernel) (by omega) hn
    rw [show k + 5 + (d + 1) = k + d + 6 from by omega, rowsQ]
    rw [show k + 5 + d = k + d + 5 from by omega] at ih
    exact rows_op F (k + d) (c := .floor a c) ⟨_, _, rfl, by simp, by simp, by simp⟩ rfl ih (fun r hx => paid_ok F.toHasPaid (k + d + 1) (by omega) h (fun _ => by simp) (fun _ => by simp) (hr.amt r hx)) hj
  | .more a c, d + 1, hd, h, hn => by
    have ih := rows_ok F k c d (by omega) h.2 hn
    have hr := rows_dis h.2
    have hj := ((hr.map fun r hx => pay_amt h (hr.amt r hx)).mono (Nat.dvd_refl _) (Nat.le_refl _) (mC_dvd (by omega : d ≤ d + 1)) (Nat.le_refl _)).jok' (by decide +kernel) (by omega) hn
    rw [show k + 5 + (d + 1) = k + d + 6 from by omega, rowsQ]
    rw [show k + 5 + d = k + d + 5 from by omega] at ih
    exact rows_op F (k + d) (c := .more a c) ⟨_, _, rfl, by simp, by simp, by simp⟩ rfl ih (fun r hx => paid_ok F.toHasPaid (k + d + 1) (by omega) h (fun _ => by simp) (fun _ => by simp) (hr.amt r hx)) hj
  | .share n m c, d + 1, hd, h, hn => by
    have ih := rows_ok F k c d (by omega) h.2 hn
    have hr := rows_dis h.2
    have hj := ((hr.map fun r hx => pay_amt h (hr.amt r hx)).mono (Nat.dvd_refl _) (Nat.le_refl _) (mC_dvd (by omega : d ≤ d + 1)) (Nat.le_refl _)).jok' (by decide +kernel) (by omega) hn
    rw [show k + 5 + (d + 1) = k + d + 6 from by omega, rowsQ]
    rw [show k + 5 + d = k + d + 5 from by omega] at ih
    exact rows_op F (k + d) (c := .share n m c) ⟨_, _, rfl, by simp, by simp, by simp⟩ rfl ih (fun r hx => paid_ok F.toHasPaid (k + d + 1) (by omega) h (fun _ => by simp) (fun _ => by simp) (hr.amt r hx)) hj
  | .insured n m a c, d + 1, hd, h, hn => by
    have ih := rows_ok F k c d (by omega) h.2 hn
    have hr := rows_dis h.2
    have hj := ((hr.map fun r hx => pay_amt h (hr.amt r hx)).mono (Nat.dvd_refl _) (Nat.le_refl _) (mC_dvd (by omega : d ≤ d + 1)) (Nat.le_refl _)).jok' (by decide +kernel) (by omega) hn
    rw [show k + 5 + (d + 1) = k + d + 6 from by omega, rowsQ]
    rw [show k + 5 + d = k + d + 5 from by omega] at ih
    exact rows_op F (k + d) (c := .insured n m a c) ⟨_, _, rfl, by simp, by simp, by simp⟩ rfl ih (fun r hx => paid_ok F.toHasPaid (k + d + 1) (by omega) h (fun _ => by simp) (fun _ => by simp) (hr.amt r hx)) hj
theorem parts_ok {T : Tab} (F : HasRows T) (k : Nat) : ∀ (l : CtrL) (d W : Nat), d ≤ 18 → l.ok d → 1 ≤ W → W ≤ 48 → l.ends < 4000 → PartsOk T (k + d) W l
  | .nil, _, _, _, _, _, _, _ => trivial
  | .cons w c r, d, W, hd, h, h1, h2, hn => by
    obtain ⟨g1, g2, g3⟩ := h
    unfold CtrL.ends at hn
    have ih := rows_ok F k c d hd g2 (by omega)
    have hr := rows_dis g2
    rw [show k + 5 + d = k + d + 5 from by omega] at ih
    refine ⟨⟨ih, ?_, fun x hx => ?_⟩, parts_ok F k r d W hd g3 h1 h2 (by omega)⟩
    · have hlt : mkRat w W ≤ 12 := by
        have e := mkRat_mul w h1
        have hW1 : (1 : Rat) ≤ (W : Rat) := by exact_mod_cast h1
        have hw : (w : Rat) ≤ 12 := by exact_mod_cast g1.2
        have hp := mkRat_pos' (w := w) (by unfold inR at g1; omega) h1
        have := Rat.mul_le_mul_of_nonneg_left hW1 (show 0 ≤ mkRat w W by grind)
        grind
      have hp := mkRat_pos' (w := w) (W := W) (by unfold inR at g1; omega) h1
      exact Sm_of (weight_wh h1 h2) (B := 12) ⟨by push_cast; grind, by push_cast; exact hlt⟩ (by decide +kernel) (by decide +kernel) (by decide +kernel)
    · have p1 := hr.pos x hx
      have p2 := sumP_mem (rs := rowsQ c) (fun r hx => by have := hr.pos r hx; grind) x hx
      rw [hr.tot] at p2
      exact Sm_of (hr.wh x hx) (Ab.one (by grind) p2) (mC_pos d) (by rw [Nat.one_mul]; exact mC_lt (by omega)) (mC_lt (by omega))
end
end MP

end
section
set_option linter.all false
set_option maxRecDepth 100000
set_option maxHeartbeats 2000000
set_option exponentiation.threshold 10000
/-! The law's rows. -/
namespace MP
open PySem (Str)
structure HasPays (T : Tab) : Prop extends HasMade T where
  pays : T (Str.ofString "_law_pays") = some Lib._law_pays
  joined : T (Str.ofString "_law_joined") = some Lib._law_joined
  rows : T (Str.ofString "_law_rows") = some Lib._law_rows
theorem SmAll_chs {M : Nat} (hM : 0 < M) (hM2 : M < Big) : ∀ (qs : List Rat) (a : Rat), (∀ q ∈ qs, 0 ≤ q ∧ Wh M q) → 0 ≤ a → Wh M a → sumQ a qs ≤ 1 → SmAll a qs
  | [], a, _, h0, hw, h1 => Sm_of hw (Ab.one h0 h1) hM (by omega) hM2
  | q :: r, a, hq, h0, hw, h1 => by
    obtain ⟨q0, qw⟩ := hq q (by simp)
    have hge : ∀ (l : List Rat) (b : Rat), (∀ q ∈ l, 0 ≤ q) → b ≤ sumQ b l := by
      intro l
      induction l with
      | nil => intro b _; simp only [sumQ]; grind
      | cons x l ih => intro b h; simp only [sumQ]; have := ih (b + x) fun y hy => h y (by simp [hy]); have := h x (by simp); grind
    have g := hge r (a + q) fun x hx => (hq x (by simp [hx])).1
    simp only [sumQ] at h1
    exact ⟨Sm_of hw (Ab.one h0 (by grind)) hM (by omega) hM2, Sm_of qw (Ab.one q0 (by grind)) hM (by omega) hM2,
      SmAll_chs hM hM2 r (a + q) (fun x hx => hq x (by simp [hx])) (by grind) (hw.add qw) h1⟩
theorem dot_ind_le (a : Rat) : ∀ {rs : Prs}, (∀ r ∈ rs, 0 < r.2) → dot (ind a) rs ≤ sumP rs
  | [], _ => by simp [dot, sumP]
  | r :: rs, h => by
    have ih := dot_ind_le a (rs := rs) fun x hx => h x (by simp [hx])
    have hr := h r (by simp)
    simp only [dot, sumP]
    by_cases e : r.1 = a
    · rw [show ind a r.1 = 1 from if_pos e]; grind
    · rw [show ind a r.1 = 0 from if_neg e]; grind
theorem Dis.filt {MA BA MC n : Nat} {t : Rat} {rs : Prs} (h : Dis MA BA MC n t rs) (ht : t ≤ 1) (hC : 0 < MC) (hC2 : MC < Big) (a : Rat) : SmAll 0 ((rs.filter fun r => decide (r.1 = a)).map (·.2)) := by
  refine SmAll_chs hC hC2 _ 0 (fun q hq => ?_) (by grind) (Wh.zero _) ?_
  · obtain ⟨r, hr, rfl⟩ := List.mem_map.mp hq
    have hr := (List.mem_filter.mp hr).1
    have := h.pos r hr
    exact ⟨by grind, h.wh r hr⟩
  · rw [← massA_sum, massA_dot]
    have := dot_ind_le a h.pos
    rw [h.tot] at this
    grind
theorem cmp_fr (a b : Rat) : cmp2 .eq (fr a) (fr b) = .ok (decide (a = b)) := by
  rw [cmp_eq rfl rfl, dq_fr]
def fmass (rs : Prs) (a : Rat) : Rat := sumQ 0 ((rs.filter fun r => decide (r.1 = a)).map (·.2))
theorem ljoined_ok {T : Tab} (F : HasPays T) (k : Nat) {MA BA MC n : Nat} {t : Rat} {rs : Prs} (h : Dis MA BA MC n t rs) (hs : ∀ r ∈ rs, Sm r.1) (ht : t ≤ 1) (hC : 0 < MC) (hC2 : MC < Big) (hn : n < 4000) :
    call T (k + 4) (Str.ofString "_law_joined") [] [.lst (rs.map rowD)] = .ok (.o ((joinQ rs).map rowD), []) := by
  rw [call_of F.joined, ← lawJ_eq]
  have lo := ordered_ok F.toHasLaw2 (k + 1) (qs := rs.map (·.1)) (fun q hq => by obtain ⟨r, hr, rfl⟩ := List.mem_map.mp hq; exact hs r hr) (by rw [List.length_map]; exact Nat.lt_of_le_of_lt h.len hn)
  have ls := fun a => lsum_ok F.toHasLaw k (h.filt ht hC hC2 a)
  have fm : ∀ a, sumQ 0 ((rs.filter fun r => decide (r.1 = a)).map (·.2)) = fmass rs a := fun _ => rfl
  simp only [fm] at ls
  have hlen : (ordL [] (rs.map (·.1))).length < 4000 := by
    have := asc_len (m := rs.map (·.1)) (ordL_sorted (rs.map (·.1)) .nil) fun a ha => by simpa using (mem_ordL _).mp ha
    rw [List.length_map] at this
    exact Nat.lt_of_le_of_lt (Nat.le_trans this h.len) hn
  rw [show k + 1 + 2 = k + 3 from rfl] at lo
  generalize call T (k + 3) = C at lo ls
  have e0 : lawJ rs = (ordL [] (rs.map (·.1))).map fun a => (a, fmass rs a) := rfl
  rw [e0]
  generalize ordL [] (rs.map (·.1)) = os at lo hlen ⊢
  have body : ∀ (os : List Rat) (acc : Prs) (s2 s3 s4 s5 : Sl), (s4 = .un ∨ ∃ d, s4 = .fz d) → (s5 = .un ∨ ∃ d, s5 = .fz d) → acc.length + os.length < 4000 → ∃ t2 t4 t5, forL (turn C (.nm 2) (.cons (.app 1 (.tup (.cons (.var 2) (.cons (.call (Str.ofString "_law_sum") (.cons (.comp (.tp2 (.nm 4) (.nm 5)) (.v (.var 0)) (.some (.v (.cmp .eq (.var 4) (.var 2)))) (.var 5) [4, 5]) .nil)) .nil)))) .nil)) (os.map fr) [.fz (.lst (rs.map rowD)), .ow (acc.map rowD), s2, s3, s4, s5] =
      .ok (.nx, [.fz (.lst (rs.map rowD)), .ow ((acc ++ os.map fun a => (a, fmass rs a)).map rowD), t2, s3, t4, t5]) := by
    intro os
    induction os with
    | nil => intro acc s2 s3 s4 s5 _ _ _; exact ⟨s2, s4, s5, by simp⟩
    | cons a os ih =>
      intro acc s2 s3 s4 s5 h4 h5 hl
      rw [List.length_cons] at hl
      obtain ⟨t2, t4, t5, e⟩ := ih (acc ++ [(a, fmass rs a)]) (.fz (fr a)) s3 s4 s5 h4 h5 (by simp; omega)
      refine ⟨t2, t4, t5, ?_⟩
      obtain ⟨e2, h2, u4, u5, rfl⟩ := loopC_fmap (t := turnC C (.tp2 (.nm 4) (.nm 5)) (.some (.v (.cmp .eq (.var 4) (.var 2)))) (.var 5) [4, 5]) (f := rowD) (g := fun r => fr r.2) (p := fun r => decide (r.1 = a))
        (I := fun env => ∃ s t, env = [.fz (.lst (rs.map rowD)), .ow (acc.map rowD), .fz (fr a), s3, s, t]) rs [.fz (.lst (rs.map rowD)), .ow (acc.map rowD), .fz (fr a), s3, s4, s5] [] ⟨_, _, rfl⟩ (by
          rintro r hr env ⟨s, t, rfl⟩
          refine ⟨[.fz (.lst (rs.map rowD)), .ow (acc.map rowD), .fz (fr a), s3, .fz (fr r.1), .fz (fr r.2)], ?_, ⟨_, _, rfl⟩⟩
          have z : rowD r = .tup [fr r.1, fr r.2] := rfl
          rw [z]
          by_cases hra : r.1 = a <;> simp [cmp_fr, hra])
      have n4 : noOwn [Sl.fz (.lst (rs.map rowD)), .ow (acc.map rowD), .fz (fr a), s3, s4, s5] [4, 5] = true := by
        rcases h4 with rfl | ⟨d, rfl⟩ <;> rcases h5 with rfl | ⟨d, rfl⟩ <;> rfl
      have ls1 := ls a
      have hm : (rs.filter fun r => decide (r.1 = a)).map (fun r => fr r.2) = ((rs.filter fun r => decide (r.1 = a)).map (·.2)).map fr := by rw [List.map_map]; rfl
      rw [hm] at h2
      have hll : acc.length < line := by unfold line; omega
      rw [List.map_cons, forL_cons]
      generalize (rs.filter fun r => decide (r.1 = a)).map (·.2) = qs at ls1 h2 e ⊢
      have zr : rowD (a, fmass rs a) = .tup [fr a, fr (fmass rs a)] := rfl
      simp at h2
      simp [n4, h2, ls1, hll]
      simp [zr] at e
      simp [zr, e]
  obtain ⟨t2, t4, t5, e⟩ := body os [] .un .un .un .un (.inl rfl) (.inl rfl) (by simpa using hlen)
  obtain ⟨e2, h2, u3, rfl⟩ := loopC_map (t := turnC C (.nm 3) .none (.ixv 3 (.con (.int 0))) [3]) (f := rowD) (g := fun r => fr r.1)
    (I := fun env => ∃ s, env = [.fz (.lst (rs.map rowD)), .ow [], .un, s, .un, .un]) rs [.fz (.lst (rs.map rowD)), .ow [], .un, .un, .un, .un] [] ⟨_, rfl⟩ (by
      rintro r hr env ⟨s, rfl⟩
      refine ⟨[.fz (.lst (rs.map rowD)), .ow [], .un, .fz (rowD r), .un, .un], ?_, ⟨_, rfl⟩⟩
      have z : rowD r = .tup [fr r.1, fr r.2] := rfl
      simp [z])
  have hm : rs.map (fun r => fr r.1) = (rs.map (·.1)).map fr := by rw [List.map_map]; rfl
  rw [hm] at h2
  have n3 : noOwn [Sl.fz (.lst (rs.map rowD)), .ow [], .un, .un, .un, .un] [3] = true := rfl
  generalize (os.map fun a => (a, fmass rs a)) = out at e ⊢
  generalize (rs.map (·.1)).map fr = as at h2 lo
  unfold run Lib._law_joined
  simp at h2 e
  simp [MF.start, n3, h2, lo, e]
theorem made_ok {T : Tab} (F : HasMade T) (k : Nat) {c : Ctr} {d : Nat} (hd : d ≤ 19) (hc : c.ok (d + 1)) (hs : ∀ a, c ≠ .sure a) (hl : ∀ l, c ≠ .draw l) {a : Rat} (ha : Amt d a) :
    call T (k + 4) (Str.ofString "_law_made") [] [c.d, fr a] = .ok (.v (fr (payQ c a)), []) := by
  have sa := ha.sm (by omega)
  have h12 : (12 : Nat) < Big := by decide +kernel
  cases c with
  | sure a => exact absurd rfl (hs a)
  | draw l => exact absurd rfl (hl l)
  | cap i c => exact made_cap F sa ((Amt.int hc.1 0).sm (by omega))
  | floor i c => exact made_floor F sa ((Amt.int hc.1 0).sm (by omega))
  | more i c => exact made_more F sa ((Amt.int hc.1 0).sm (by omega))
  | share n m c =>
    obtain ⟨⟨h1, h2⟩, _⟩ := hc
    exact made_share F sa (by unfold inR at h1; omega) (by unfold inR at h2; omega) (by unfold inR at h2; omega)
  | insured n m i c =>
    obtain ⟨⟨h1, h2, _, h3⟩, _⟩ := hc
    obtain ⟨g1, g2⟩ := gap_amt h3 ha
    have gs : Sm ((i : Rat) - a) := Sm_amt (d := d + 1) (by omega) (g1.mono (mA_dvd (by omega))) (g2.mono (by have := bA_ge d; rw [bA_succ]; omega))
    exact made_ins F sa (by unfold inR at h1; omega) (by unfold inR at h2; omega) (by unfold inR at h2; omega) ((Amt.int h3 0).sm (by omega)) gs (by rw [Rat.mul_comm]; exact (share_amt h1 h2 g1 g2).sm (by omega))
theorem sum_comp8 (C : CallF) (s0 s1 s2 s3 s4 s5 s6 s7 : Sl) : ∀ (l : CtrL), ∃ ws : List Int, ws.sum = l.sum ∧ ∀ (acc : List D) (s8 : Sl), ∃ t8, loopC (turnC C (.nm 8) .none (.ixv 8 (.con (.int 0))) [8]) l.ds [s0, s1, s2, s3, s4, s5, s6, s7, s8] acc = .ok (acc ++ ws.map D.int, [s0, s1, s2, s3, s4, s5, s6, s7, t8])
  | .nil => ⟨[], rfl, fun acc s8 => ⟨s8, by simp [CtrL.ds]⟩⟩
  | .cons w c r => by
    obtain ⟨ws, h1, h2⟩ := sum_comp8 C s0 s1 s2 s3 s4 s5 s6 s7 r
    refine ⟨w :: ws, by simp [CtrL.sum, h1], fun acc s8 => ?_⟩
    obtain ⟨t8, e⟩ := h2 (acc ++ [.int w]) (.fz (.tup [.int w, c.d]))
    refine ⟨t8, ?_⟩
    simp [CtrL.ds]
    rw [e]
    simp
/-- a loop that appends -/
theorem forL_app {α : Type} {b : D → En → Out (Fl × En)} {f g : α → D} {E : List D → En → Prop} : ∀ (xs : List α) (acc : List D) (env : En), E acc env → (∀ x ∈ xs, ∀ acc env, E acc env → acc.length < 1000000 → ∃ env', b (f x) env = .ok (.nx, env') ∧ E (acc ++ [g x]) env') → acc.length + xs.length < 1000000 →
    ∃ env', forL b (xs.map f) env = .ok (.nx, env') ∧ E (acc ++ xs.map g) env'
  | [], acc, env, h, _, _ => ⟨env, rfl, by simpa using h⟩
  | x :: xs, acc, env, h, hb, hl => by
    rw [List.length_cons] at hl
    obtain ⟨e1, h1, h2⟩ := hb x (by simp) acc env h (by omega)
    obtain ⟨e2, h3, h4⟩ := forL_app xs (acc ++ [g x]) e1 h2 (fun y hy => hb y (by simp [hy])) (by simp; omega)
    refine ⟨e2, ?_, by simpa using h4⟩
    rw [List.map_cons, forL_cons, h1]
    exact h3
theorem lpays_sure {T : Tab} (F : HasPays T) (k : Nat) (a : Int) : call T (k + 1) (Str.ofString "_law_pays") [] [(Ctr.sure a).d] = .ok (.o ((paysQ (.sure a)).map rowD), []) := by
  rw [call_of F.pays]
  generalize call T k = C
  unfold run Lib._law_pays
  have e : rowD ((a : Rat), 1) = .tup [.tup [.int a, .int 1], .tup [.int 1, .int 1]] := by unfold rowD; rw [← fr_int]; rfl
  simp [MF.start, Ctr.d, cmp_str, paysQ, e]
theorem lpays_op {T : Tab} (F : HasPays T) (k : Nat) {c b : Ctr} (hw : ∃ w r, c.d = .tup (.str w :: r) ∧ strOk w = true ∧ (w == Str.ofString "sure") = false ∧ (w == Str.ofString "draw") = false) (hb : item c.d (.int (-1)) = .ok b.d)
    (hrec : call T (k + 5) (Str.ofString "_law_pays") [] [b.d] = .ok (.o ((paysQ b).map rowD), [])) (hp : ∀ r ∈ paysQ b, call T (k + 5) (Str.ofString "_law_made") [] [c.d, fr r.1] = .ok (.v (fr (payQ c r.1)), []))
    (hl : (paysQ b).length < 4000) : call T (k + 6) (Str.ofString "_law_pays") [] [c.d] = .ok (.o (((paysQ b).map fun r => (payQ c r.1, r.2)).map rowD), []) := by
  rw [call_of F.pays]
  generalize call T (k + 5) = C at hrec hp
  obtain ⟨w, r0, hw1, hw2, hw3, hw4⟩ := hw
  have i0 : item c.d (.int 0) = .ok (.str w) := by rw [hw1]; exact item0 _ _
  generalize paysQ b = rs at hrec hp hl
  obtain ⟨e2, h2, s4, s5, rfl⟩ := forL_app (b := turn C (.tp2 (.nm 4) (.nm 5)) (.cons (.app 2 (.tup (.cons (.call (Str.ofString "_law_made") (.cons (.var 0) (.cons (.var 4) .nil))) (.cons (.var 5) .nil)))) .nil)) (f := rowD) (g := fun r => rowD (payQ c r.1, r.2))
    (E := fun acc env => ∃ s t, env = [.fz c.d, .fz (.str w), .ow acc, .un, s, t, .un, .un, .un]) rs [] [.fz c.d, .fz (.str w), .ow [], .un, .un, .un, .un, .un, .un] ⟨_, _, rfl⟩ (by
      rintro r hr acc env ⟨s, t, rfl⟩ hl
      refine ⟨[.fz c.d, .fz (.str w), .ow (acc ++ [rowD (payQ c r.1, r.2)]), .un, .fz (fr r.1), .fz (fr r.2), .un, .un, .un], ?_, ⟨_, _, rfl⟩⟩
      have l1 := hp r hr
      have z : rowD r = .tup [fr r.1, fr r.2] := rfl
      have hll : acc.length < line := by unfold line; omega
      rw [z]
      simp [l1, rowD, hll]) (by simp; omega)
  have hm2 : (rs.map fun r => rowD (payQ c r.1, r.2)) = (rs.map fun r => (payQ c r.1, r.2)).map rowD := by rw [List.map_map]; rfl
  rw [hm2] at h2
  generalize (rs.map fun r => (payQ c r.1, r.2)) = ps at h2 ⊢
  have hit : items (.lst (rs.map rowD)) = some (rs.map rowD) := rfl
  generalize hD : D.lst (rs.map rowD) = dd at hit
  generalize c.d = cd at i0 hb hp h2 ⊢
  unfold run Lib._law_pays
  rw [← hD] at hit
  simp at h2
  simp [MF.start, i0, hb, cmp_str, cmp_strN, hw2, hw3, hw4, hrec, h2]
/-- what a drawing asks of its parts, the law's way -/
def LPartsOk (C : CallF) : CtrL → Prop
  | .nil => True
  | .cons w c r => (C (Str.ofString "_law_pays") [] [c.d] = .ok (.o ((paysQ c).map rowD), []) ∧ w.natAbs < Big ∧ ∀ x ∈ paysQ c, Sm x.2) ∧ LPartsOk C r
theorem ldraw_loop {C : CallF} {W : Nat} (lm : ∀ (p : Rat) (w : Int), Sm p → w.natAbs < Big → C (Str.ofString "_law_mul") [] [fr p, .tup [.int w, .int W]] = .ok (.v (fr (p * mkRat w W)), [])) (s0 s1 s8 : Sl) :
    ∀ (m : CtrL) (acc : Prs) (s4 s5 s6 s7 : Sl), LPartsOk C m → acc.length + (paysL W m).length < 4000 →
      ∃ t4 t5 t6 t7, forL (turn C (.tp2 (.nm 6) (.nm 7)) (.cons (.forr (.tp2 (.nm 4) (.nm 5)) (.v (.call (Str.ofString "_law_pays") (.cons (.var 7) .nil))) (.cons (.app 2 (.tup (.cons (.var 4) (.cons (.call (Str.ofString "_law_mul") (.cons (.var 5) (.cons (.tup (.cons (.var 6) (.cons (.var 3) .nil))) .nil))) .nil)))) .nil)) .nil)) m.ds [s0, s1, .ow (acc.map rowD), .fz (.int W), s4, s5, s6, s7, s8] =
        .ok (.nx, [s0, s1, .ow ((acc ++ paysL W m).map rowD), .fz (.int W), t4, t5, t6, t7, s8])
  | .nil, acc, s4, s5, s6, s7, _, _ => ⟨s4, s5, s6, s7, by simp [CtrL.ds, paysL]⟩
  | .cons w c r, acc, s4, s5, s6, s7, hp, hlen => by
    obtain ⟨⟨p1, p2, p3⟩, p4⟩ := hp
    unfold paysL at hlen ⊢
    rw [List.length_append, List.length_map] at hlen
    have hWn : (W : Int).toNat = W := Int.toNat_natCast W
    rw [hWn]
    obtain ⟨e2, h2, u4, u5, rfl⟩ := forL_app (b := turn C (.tp2 (.nm 4) (.nm 5)) (.cons (.app 2 (.tup (.cons (.var 4) (.cons (.call (Str.ofString "_law_mul") (.cons (.var 5) (.cons (.tup (.cons (.var 6) (.cons (.var 3) .nil))) .nil))) .nil)))) .nil)) (f := rowD) (g := fun x => rowD (x.1, x.2 * mkRat w W))
      (E := fun acc env => ∃ s t, env = [s0, s1, .ow acc, .fz (.int W), s, t, .fz (.int w), .fz c.d, s8]) (paysQ c) (acc.map rowD) [s0, s1, .ow (acc.map rowD), .fz (.int W), s4, s5, .fz (.int w), .fz c.d, s8] ⟨_, _, rfl⟩ (by
        rintro x hx acc env ⟨s, t, rfl⟩ hl
        refine ⟨[s0, s1, .ow (acc ++ [rowD (x.1, x.2 * mkRat w W)]), .fz (.int W), .fz (fr x.1), .fz (fr x.2), .fz (.int w), .fz c.d, s8], ?_, ⟨_, _, rfl⟩⟩
        have l1 := lm x.2 w (p3 x hx) p2
        have z : rowD x = .tup [fr x.1, fr x.2] := rfl
        have hll : acc.length < line := by unfold line; omega
        rw [z]
        simp [l1, rowD, hll]) (by simp; omega)
    have hm2 : ((paysQ c).map fun x => rowD (x.1, x.2 * mkRat w W)) = ((paysQ c).map fun x => (x.1, x.2 * mkRat w W)).map rowD := by rw [List.map_map]; rfl
    rw [hm2] at h2
    obtain ⟨t4, t5, t6, t7, e⟩ := ldraw_loop lm s0 s1 s8 r (acc ++ (paysQ c).map (fun x => (x.1, x.2 * mkRat w W))) u4 u5 (.fz (.int w)) (.fz c.d) p4 (by rw [List.length_append, List.length_map]; omega)
    refine ⟨t4, t5, t6, t7, ?_⟩
    rw [← List.append_assoc]
    have hds : (CtrL.cons w c r).ds = .tup [.int w, c.d] :: r.ds := rfl
    rw [hds, forL_cons]
    generalize (paysQ c).map (fun x => (x.1, x.2 * mkRat w W)) = ps at h2 e ⊢
    simp at h2 e
    simp [p1, h2, e]
theorem lpays_draw {T : Tab} (F : HasPays T) (k : Nat) {l : CtrL} {W : Nat} (hW : l.sum = W) (hW0 : 0 < W) (hWB : W < Big) (hp : LPartsOk (call T (k + 5)) l) (hl : (paysL W l).length < 4000) :
    call T (k + 6) (Str.ofString "_law_pays") [] [(Ctr.draw l).d] = .ok (.o ((paysL W l).map rowD), []) := by
  rw [call_of F.pays]
  have lm := fun (p : Rat) (w : Int) (a : Sm p) (b : w.natAbs < Big) => mul_gen F.toHasLaw (k + 3) (p := p) (n := w) (d := W) a b hW0 hWB
  rw [show k + 3 + 2 = k + 5 from rfl] at lm
  generalize call T (k + 5) = C at lm hp
  have hd : (Ctr.draw l).d = .tup [.str (Str.ofString "draw"), .tup l.ds] := rfl
  rw [hd]
  obtain ⟨ws, hws, hcomp⟩ := sum_comp8 C (.fz (.tup [.str (Str.ofString "draw"), .tup l.ds])) (.fz (.str (Str.ofString "draw"))) (.ow []) .un .un .un .un .un l
  obtain ⟨t8, hcc⟩ := hcomp [] .un
  obtain ⟨t4, t5, t6, t7, e⟩ := ldraw_loop lm (.fz (.tup [.str (Str.ofString "draw"), .tup l.ds])) (.fz (.str (Str.ofString "draw"))) .un l [] .un .un .un .un hp (by simpa using hl)
  have n3 : noOwn [Sl.fz (.tup [.str (Str.ofString "draw"), .tup l.ds]), .fz (.str (Str.ofString "draw")), .ow [], .un, .un, .un, .un, .un, .un] [8] = true := rfl
  have hsum : bi1 .sum [.lst (ws.map D.int)] = .ok (.v (.int W)) := by
    unfold bi1
    dsimp only
    unfold bsum
    dsimp only
    rw [intsD_map]
    dsimp only
    rw [hws, hW]
  unfold run Lib._law_pays
  simp at hcc e
  simp [MF.start, cmp_str, cmp_strN, n3, hcc, hsum, e]
mutual
theorem lpays_ok {T : Tab} (F : HasPays T) (k : Nat) : ∀ (c : Ctr) (d : Nat), d ≤ 18 → c.ok d → c.ends < 4000 → call T (k + 5 + d) (Str.ofString "_law_pays") [] [c.d] = .ok (.o ((paysQ c).map rowD), [])
  | c, 0, _, h, _ => by cases c <;> simp [Ctr.ok] at h
  | .sure a, d + 1, hd, h, hn => lpays_sure F (k + 5 + d) a
  | .draw l, d + 1, hd, h, hn => by
    obtain ⟨⟨h1, h2⟩, h3⟩ := h
    have hb := sum_bnd h3
    have hp := paysL_dis l d l.sum.toNat h3 (by omega) (by omega)
    have hpo := lparts_ok F k l d (by omega) h3 hn
    rw [show k + 5 + d = k + d + 5 from by omega] at hpo
    have := lpays_draw F (k + d) (l := l) (W := l.sum.toNat) (Int.toNat_of_nonneg (by omega)).symm (by omega) (Nat.lt_of_le_of_lt (show l.sum.toNat ≤ 48 by omega) (by decide +kernel)) hpo (Nat.lt_of_le_of_lt hp.len hn)
    rw [Int.toNat_of_nonneg (by omega)] at this
    rw [show k + 5 + (d + 1) = k + d + 6 from by omega, this, paysQ]
  | .cap a c, d + 1, hd, h, hn => by
    have ih := lpays_ok F k c d (by omega) h.2 hn
    have hr := pays_dis c d h.2
    rw [show k + 5 + (d + 1) = k + d + 6 from by omega, paysQ]
    rw [show k + 5 + d = k + d + 5 from by omega] at ih
    exact lpays_op F (k + d) (c := .cap a c) ⟨_, _, rfl, by simp, by simp, by simp⟩ rfl ih (fun r hx => made_ok F.toHasMade (k + d + 1) (by omega) h (fun _ => by simp) (fun _ => by simp) (hr.amt r hx)) (Nat.lt_of_le_of_lt hr.len hn)
  | .floor a c, d + 1, hd, h, hn => by
    have ih := lpays_ok F k c d (by omega) h.2 hn
    have hr := pays_dis c d h.2
    rw [show k + 5 + (d + 1) = k + d + 6 from by omega, paysQ]
    rw [show k + 5 + d = k + d + 5 from by omega] at ih
    exact lpays_op F (k + d) (c := .floor a c) ⟨_, _, rfl, by simp, by simp, by simp⟩ rfl ih (fun r hx => made_ok F.toHasMade (k + d + 1) (by omega) h (fun _ => by simp) (fun _ => by simp) (hr.amt r hx)) (Nat.lt_of_le_of_lt hr.len hn)
  | .more a c, d + 1, hd, h, hn => by
    have ih := lpays_ok F k c d (by omega) h.2 hn
    have hr := pays_dis c d h.2
    rw [show k + 5 + (d + 1) = k + d + 6 from by omega, paysQ]
    rw [show k + 5 + d = k + d + 5 from by omega] at ih
    exact lpays_op F (k + d) (c := .more a c) ⟨_, _, rfl, by simp, by simp, by simp⟩ rfl ih (fun r hx => made_ok F.toHasMade (k + d + 1) (by omega) h (fun _ => by simp) (fun _ => by simp) (hr.amt r hx)) (Nat.lt_of_le_of_lt hr.len hn)
  | .share n m c, d + 1, hd, h, hn => by
    have ih := lpays_ok F k c d (by omega) h.2 hn
    have hr := pays_dis c d h.2
    rw [show k + 5 + (d + 1) = k + d + 6 from by omega, paysQ]
    rw [show k + 5 + d = k + d + 5 from by omega] at ih
    exact lpays_op F (k + d) (c := .share n m c) ⟨_, _, rfl, by simp, by simp, by simp⟩ rfl ih (fun r hx => made_ok F.toHasMade (k + d + 1) (by omega) h (fun _ => by simp) (fun _ => by simp) (hr.amt r hx)) (Nat.lt_of_le_of_lt hr.len hn)
  | .insured n m a c, d + 1, hd, h, hn => by
    have ih := lpays_ok F k c d (by omega) h.2 hn
    have hr := pays_dis c d h.2
    rw [show k + 5 + (d + 1) = k + d + 6 from by omega, paysQ]
    rw [show k + 5 + d = k + d + 5 from by omega] at ih
    exact lpays_op F (k + d) (c := .insured n m a c) ⟨_, _, rfl, by simp, by simp, by simp⟩ rfl ih (fun r hx => made_ok F.toHasMade (k + d + 1) (by omega) h (fun _ => by simp) (fun _ => by simp) (hr.amt r hx)) (Nat.lt_of_le_of_lt hr.len hn)
theorem lparts_ok {T : Tab} (F : HasPays T) (k : Nat) : ∀ (l : CtrL) (d : Nat), d ≤ 18 → l.ok d → l.ends < 4000 → LPartsOk (call T (k + 5 + d)) l
  | .nil, _, _, _, _ => trivial
  | .cons w c r, d, hd, h, hn => by
    obtain ⟨g1, g2, g3⟩ := h
    unfold CtrL.ends at hn
    have ih := lpays_ok F k c d hd g2 (by omega)
    have hr := pays_dis c d g2
    refine ⟨⟨ih, ?_, fun x hx => ?_⟩, lparts_ok F k r d hd g3 (by omega)⟩
    · exact Nat.lt_of_le_of_lt (show w.natAbs ≤ 12 by unfold inR at g1; omega) (by decide +kernel)
    · have p1 := hr.pos x hx
      have p2 := sumP_mem (rs := paysQ c) (fun r hx => by have := hr.pos r hx; grind) x hx
      rw [hr.tot] at p2
      exact Sm_of (hr.wh x hx) (Ab.one (by grind) p2) (mC_pos d) (by rw [Nat.one_mul]; exact mC_lt (by omega)) (mC_lt (by omega))
end
theorem lrows_ok {T : Tab} (F : HasPays T) (k : Nat) {c : Ctr} (h : c.ok 6) (hn : c.ends < 4000) : call T (k + 12) (Str.ofString "_law_rows") [] [c.d] = .ok (.o ((rowsQ c).map rowD), []) := by
  rw [call_of F.rows, rows_eqv]
  have hd := pays_dis c 6 h
  have l1 := lpays_ok F k c 6 (by omega) h hn
  have l2 := ljoined_ok F (k + 7) hd (fun r hr => (hd.amt r hr |> fun x => (show Amt 6 r.1 from x).sm (by omega))) (by decide +kernel) (mC_pos 6) (mC_lt (by omega)) hn
  rw [show k + 5 + 6 = k + 11 from rfl] at l1
  rw [show k + 7 + 4 = k + 11 from rfl] at l2
  generalize call T (k + 11) = C at l1 l2
  unfold run Lib._law_rows
  simp [MF.start, l1, l2]
end MP

end
section
set_option linter.all false
set_option maxRecDepth 100000
set_option maxHeartbeats 2000000
set_option exponentiation.threshold 10000
/-! What the laws draw. -/
namespace MP
open PySem (Str)
theorem rd_s (s : Sl) (r : En) (i : Nat) : rd (s :: r) (i + 1) = (rd r i).bind fun p => .ok (p.1, s :: p.2) := by
  unfold rd
  rw [get_s]
  cases h : get r i <;> simp
theorem rd_zo (d : List D) (r : En) : rd (.ow d :: r) 0 = .ok (.v (.lst d), .fz (.lst d) :: r) := rfl
/-- the state that draws go on with -/
def VatOk (xs : List D) : Prop := ∃ x y : Int, xs = [.int x, .int y] ∧ 0 ≤ x ∧ 0 ≤ y ∧ y < 2147483648
structure HasUnder (T : Tab) : Prop where
  vat : T (Str.ofString "_law_vat") = some Lib._law_vat
  under : T (Str.ofString "_law_under") = some Lib._law_under
  pick : T (Str.ofString "_law_some") = some Lib._law_some
theorem mulOk_small {i j : Int} (h1 : -18446744073709551616 < i) (h2 : i < 18446744073709551616) : mulOk i j = true := by
  unfold mulOk
  have a : decide (-(2 ^ 64) < i) = true := by simpa using h1
  have b : decide (i < 2 ^ 64) = true := by simpa using h2
  rw [a, b]; rfl
theorem mulOk_small' {i j : Int} (h1 : -18446744073709551616 < j) (h2 : j < 18446744073709551616) : mulOk i j = true := by
  unfold mulOk
  have a : decide (-(2 ^ 64) < j) = true := by simpa using h1
  have b : decide (j < 2 ^ 64) = true := by simpa using h2
  rw [a, b]; simp
theorem mul_s {i j : Int} (h1 : -18446744073709551616 < i) (h2 : i < 18446744073709551616) : bin2 .mul (.int i) (.int j) = .ok (.v (.int (i * j))) := by
  show (if mulOk i j = true then _ else _) = _
  rw [mulOk_small h1 h2, if_pos rfl]
theorem mul_s' {i j : Int} (h1 : -18446744073709551616 < j) (h2 : j < 18446744073709551616) : bin2 .mul (.int i) (.int j) = .ok (.v (.int (i * j))) := by
  show (if mulOk i j = true then _ else _) = _
  rw [mulOk_small' h1 h2, if_pos rfl]
theorem mod_ok (i : Int) {j : Int} (h : 0 < j) : bin2 .mod (.int i) (.int j) = .ok (.v (.int (i % j))) := by
  show (if decide (0 < j) = true then _ else _) = _
  rw [if_pos (by simpa using h)]
theorem div_ok (i : Int) {j : Int} (h : 0 < j) (h2 : j < 18446744073709551616) : bin2 .fdiv (.int i) (.int j) = .ok (.v (.int (i / j))) := by
  show (if divOk j = true then _ else _) = _
  have : divOk j = true := by
    have := divOk_of (g := j.toNat) (by omega) (Nat.lt_of_lt_of_le (show j.toNat < 2 ^ 64 by omega) (Nat.pow_le_pow_right (by decide) (by decide)))
    rwa [Int.toNat_of_nonneg (by omega)] at this
  rw [if_pos this]
@[simp] theorem place2_0 : place 2 0 = some 0 := id rfl
@[simp] theorem place2_1 : place 2 1 = some 1 := id rfl
@[simp] theorem iteml0 (x : D) (r : List D) : item (.lst (x :: r)) (.int 0) = .ok x := by
  simp [item, at_, place]
@[simp] theorem iteml1 (x y : D) (r : List D) : item (.lst (x :: y :: r)) (.int 1) = .ok y := by
  have : (1 : Int) < (r.length : Int) + 1 + 1 := by omega
  simp [item, at_, place, this]
theorem under_ok {T : Tab} (F : HasUnder T) (k : Nat) {xs : List D} {m : Int} (hx : VatOk xs) (hm : 0 < m) (hm2 : m < 1000000) :
    ∃ (n : Int) (ys : List D), VatOk ys ∧ 0 ≤ n ∧ n < m ∧ call T (k + 1) (Str.ofString "_law_under") xs [.int m] = .ok (.v (.int n), ys) := by
  obtain ⟨x, y, rfl, h0, h1, h2⟩ := hx
  rw [call_of F.under]
  generalize call T k = C
  unfold run Lib._law_under
  by_cases hx0 : 0 < x
  · refine ⟨x % m, [.int (x / m), .int y], ⟨_, _, rfl, Int.ediv_nonneg h0 (by omega), h1, h2⟩, Int.emod_nonneg _ (by omega), Int.emod_lt_of_pos _ hm, ?_⟩
    simp [MF.start, hx0, mod_ok x hm, div_ok x hm (by omega), rd_s, rd_zo]
  · have e1 : bin2 .mul (.int y) (.int 39373) = .ok (.v (.int (y * 39373))) := mul_s (by omega) (by omega)
    have hy : 0 ≤ (y * 39373 + 101) % 2147483629 := Int.emod_nonneg _ (by omega)
    have hy2 : (y * 39373 + 101) % 2147483629 < 2147483629 := Int.emod_lt_of_pos _ (by omega)
    have m1 := mod_ok (y * 39373 + 101) (j := 2147483629) (by omega)
    generalize (y * 39373 + 101) % 2147483629 = y' at hy hy2 m1
    have d1 := div_ok y' (j := 5) (by omega) (by omega)
    have e2 : bin2 .mul (.int y') (.int (y' / 5 + 9)) = .ok (.v (.int (y' * (y' / 5 + 9)))) := mul_s (by omega) (by omega)
    have m2 := mod_ok (y' * (y' / 5 + 9)) (j := 2147483587) (by omega)
    generalize y' * (y' / 5 + 9) % 2147483587 = wide at m2
    have d2 := div_ok wide (j := 32) (by omega) (by omega)
    refine ⟨wide / 32 % m, [.int x, .int y'], ⟨_, _, rfl, h0, hy, by omega⟩, Int.emod_nonneg _ (by omega), Int.emod_lt_of_pos _ hm, ?_⟩
    simp [MF.start, hx0, e1, m1, d1, e2, m2, d2, mod_ok (wide / 32) hm, rd_s, rd_zo]
theorem some_lst {T : Tab} (F : HasUnder T) (k : Nat) {xs ds : List D} (hx : VatOk xs) (hd : 0 < ds.length) (hd2 : ds.length < 1000000) :
    ∃ (d : D) (ys : List D), VatOk ys ∧ d ∈ ds ∧ call T (k + 2) (Str.ofString "_law_some") xs [.lst ds] = .ok (.v d, ys) := by
  obtain ⟨n, ys, h1, h2, h3, h4⟩ := under_ok F k (m := ds.length) hx (by omega) (by omega)
  rw [call_of F.pick]
  generalize call T (k + 1) = C at h4
  have hl : n.toNat < ds.length := by omega
  have hit : item (.lst ds) (.int n) = .ok ds[n.toNat] := by
    simp only [item, at_, place]
    rw [if_pos h2, if_pos h3, Option.bind_some, List.getElem?_eq_getElem hl]
  refine ⟨ds[n.toNat], ys, h1, List.getElem_mem hl, ?_⟩
  unfold run Lib._law_some
  simp [MF.start, h4, hit]
theorem pow18 : bin2 .pow (.int 10) (.int 18) = .ok (.v (.int 1000000000000000000)) := by
  show (if (decide ((0:Int) ≤ 18) && decide ((18:Int) ≤ 1000000) && decide ((10:Int).natAbs < 2 ^ 64)) = true then Out.ok (R.v (.int (10 ^ (18:Int).toNat))) else .bad) = _
  rw [if_pos (by decide +kernel)]
  rfl
theorem vat_ok {T : Tab} (F : HasUnder T) (k : Nat) (ns : List Int) {j : Int} (h0 : 0 ≤ j) (h1 : j < 1000000) : ∃ xs : List D, VatOk xs ∧ call T (k + 1) (Str.ofString "_law_vat") [] [.frz ns, .int j] = .ok (.o xs, []) := by
  rw [call_of F.vat]
  generalize call T k = C
  have e1 : bin2 .mul (.int 7919) (.int j) = .ok (.v (.int (7919 * j))) := mul_s (by omega) (by omega)
  have e3 : bin2 .mul (.int 8191) (.int j) = .ok (.v (.int (8191 * j))) := mul_s (by omega) (by omega)
  have m2 : ∀ z : Int, bin2 .mod (.int z) (.int 2147483629) = .ok (.v (.int (z % 2147483629))) := fun z => mod_ok z (by omega)
  have e2 : ∀ c : Int, bin2 .mul (.int c) (.int 131071) = .ok (.v (.int (c * 131071))) := fun c => mul_s' (by omega) (by omega)
  have fin : ∀ c z : Int, 0 ≤ c → VatOk [.int (if (1000000000000000000 : Int) ≤ c then c else 0), .int (z % 2147483629 + 1)] := by
    intro c z hc
    have a := Int.emod_nonneg z (b := 2147483629) (by omega)
    have b := Int.emod_lt_of_pos z (b := 2147483629) (by omega)
    exact ⟨_, _, rfl, by split <;> omega, by omega, by omega⟩
  unfold run Lib._law_vat
  by_cases hj : j < ns.length
  · have hl : j.toNat < ns.length := by omega
    have hit : item (.frz ns) (.int j) = .ok (.int ns[j.toNat]) := by
      simp only [item, at_, place]
      rw [if_pos h0, if_pos hj, Option.bind_some, List.getElem?_eq_getElem hl]
    generalize ns[j.toNat] = c at hit
    obtain ⟨a, ha⟩ : ∃ a : Int, a = if c < 0 then -c else c := ⟨_, rfl⟩
    have ha0 : 0 ≤ a := by rw [ha]; split <;> omega
    refine ⟨_, fin a (a * 131071 + 8191 * j + 5) ha0, ?_⟩
    by_cases hc : (1000000000000000000 : Int) ≤ a <;> simp [MF.start, e1, e3, hj, hit, ← ha, pow18, hc, e2, m2]
  · refine ⟨_, fin (7919 * j + 43) ((7919 * j + 43) * 131071 + 8191 * j + 5) (by omega), ?_⟩
    have hc : ¬ (1000000000000000000 : Int) ≤ 7919 * j + 43 := by omega
    simp [MF.start, e1, e3, hj, pow18, hc, e2, m2]
theorem forL_invN {b : D → En → Out (Fl × En)} {I : Nat → En → Prop} : ∀ (ds : List D) (n : Nat) (env : En), I n env → (∀ m d env, d ∈ ds → m < n + ds.length → I m env → ∃ env', b d env = .ok (.nx, env') ∧ I (m + 1) env') → ∃ env', forL b ds env = .ok (.nx, env') ∧ I (n + ds.length) env'
  | [], n, env, h, _ => ⟨env, rfl, h⟩
  | d :: ds, n, env, h, hb => by
    obtain ⟨e1, h1, h2⟩ := hb n d env (by simp) (by simp) h
    obtain ⟨e2, h3, h4⟩ := forL_invN ds (n + 1) e1 h2 fun m x env hx hm => hb m x env (by simp [hx]) (by simp; omega)
    refine ⟨e2, ?_, ?_⟩
    · rw [forL_cons, h1]; exact h3
    · rw [List.length_cons]; rw [show n + (ds.length + 1) = n + 1 + ds.length from by omega]; exact h4
theorem length_rangeD : ∀ (n : Nat) (lo : Int), (rangeD lo n).length = n
  | 0, _ => rfl
  | n + 1, lo => by rw [rangeD, List.length_cons, length_rangeD n]
structure HasDraw (T : Tab) : Prop extends HasUnder T, HasShape T where
  contract : T (Str.ofString "_law_contract") = some Lib._law_contract
  small : T (Str.ofString "_law_small") = some Lib._law_small
theorem rOk_small {i : Int} (h0 : 0 ≤ i) (h1 : i < 1000000) : rOk i = true := by
  unfold rOk
  simp; omega
theorem sh_str {n : Nat} {x : Str} : sh n (.str x) = strOk x := by cases n <;> rfl
theorem sh_int {n : Nat} {i : Int} : sh n (.int i) = true := by cases n <;> rfl
theorem contract_ok {T : Tab} (F : HasUnder T) (hT : T (Str.ofString "_law_contract") = some Lib._law_contract) (k : Nat) : ∀ (n : Nat) {xs : List D}, VatOk xs →
    ∃ (v : D) (ys : List D), VatOk ys ∧ sh (3 * n + 1) v = true ∧ call T (k + 3 + n) (Str.ofString "_law_contract") xs [.int n] = .ok (.v v, ys)
  | n, xs, hx => by
    rw [show k + 3 + n = (k + 2 + n) + 1 from by omega, call_of hT]
    have hu := fun (xs : List D) (m : Int) (hx : VatOk xs) (hm : 0 < m) (hm2 : m < 1000000) => under_ok F (k + 1 + n) hx hm hm2
    have hs := fun (xs ds : List D) (hx : VatOk xs) a b => some_lst F (k + n) (xs := xs) (ds := ds) hx a b
    have ih : 0 < n → ∀ (xs : List D), VatOk xs → ∃ (v : D) (ys : List D), VatOk ys ∧ sh (3 * n - 2) v = true ∧ call T (k + 2 + n) (Str.ofString "_law_contract") xs [.int (n - 1)] = .ok (.v v, ys) := by
      intro hn xs hx
      obtain ⟨m, rfl⟩ : ∃ m, n = m + 1 := ⟨n - 1, by omega⟩
      have := contract_ok F hT k m hx
      rw [show k + 2 + (m + 1) = k + 3 + m from by omega, show 3 * (m + 1) - 2 = 3 * m + 1 from by omega, show ((m + 1 : Nat) : Int) - 1 = (m : Int) from by omega]
      exact this
    rw [show k + 1 + n + 1 = k + 2 + n from by omega] at hu
    rw [show k + n + 2 = k + 2 + n from by omega] at hs
    generalize call T (k + 2 + n) = C at hu hs ih
    have sure : ∀ xs : List D, VatOk xs → ∀ s1 s2 s3 s4 s5 s6 s7 : Sl, ∃ (v : D) (ys : List D), VatOk ys ∧ sh 1 v = true ∧ ev C (.tup (.cons (.con (.str (Str.ofString "sure"))) (.cons (.callo (Str.ofString "_law_some") 0 (.cons (.lst (.cons (.con (.int 0)) (.cons (.con (.int 1)) (.cons (.con (.int 2)) (.cons (.con (.int 3)) (.cons (.con (.int 4)) (.cons (.con (.int 5)) (.cons (.con (.int 6)) (.cons (.con (.int 8)) (.cons (.con (.int 10)) (.cons (.con (.int 12)) (.cons (.neg (.con (.int 3))) (.cons (.neg (.con (.int 7))) .nil))))))))))))) .nil)) .nil))) [.ow xs, s1, s2, s3, s4, s5, s6, s7] = .ok (.v v, [.ow ys, s1, s2, s3, s4, s5, s6, s7]) := by
      intro xs hx s1 s2 s3 s4 s5 s6 s7
      obtain ⟨d, ys, h1, h2, h3⟩ := hs xs [.int 0, .int 1, .int 2, .int 3, .int 4, .int 5, .int 6, .int 8, .int 10, .int 12, .int (-3), .int (-7)] hx (by decide) (by decide)
      refine ⟨.tup [.str (Str.ofString "sure"), d], ys, h1, ?_, by simp [h3]⟩
      have : ∃ i, d = .int i := by
        simp only [List.mem_cons, List.not_mem_nil, or_false] at h2
        rcases h2 with rfl | rfl | rfl | rfl | rfl | rfl | rfl | rfl | rfl | rfl | rfl | rfl <;> exact ⟨_, rfl⟩
      obtain ⟨i, rfl⟩ := this
      simp [sh, shs]
    by_cases hn : (1 : Int) < n
    · obtain ⟨way, ys, h1, h2, h3, h4⟩ := hu xs 10 hx (by omega) (by omega)
      by_cases w3 : way < 3
      · obtain ⟨v, zs, g1, g2, g3⟩ := sure ys h1 (.fz (.int n)) (.fz (.int way)) .un .un .un .un .un
        refine ⟨v, zs, g1, sh_mono (by omega) g2, ?_⟩
        unfold run Lib._law_contract
        simp [MF.start, hn, h4, w3, g3, -ev_tup]
      · by_cases w7 : way < 7
        · obtain ⟨t, zs, g1, g2, g3, g4⟩ := hu ys 2 h1 (by omega) (by omega)
          obtain ⟨env, e1, e2⟩ := forL_invN (b := turn C (.nm 5) (.cons (.app 4 (.tup (.cons (.callo (Str.ofString "_law_some") 0 (.cons (.lst (.cons (.con (.int 1)) (.cons (.con (.int 1)) (.cons (.con (.int 1)) (.cons (.con (.int 2)) (.cons (.con (.int 3)) .nil)))))) .nil)) (.cons (.callo (Str.ofString "_law_contract") 0 (.cons (.bin .sub (.var 1) (.con (.int 1))) .nil)) .nil)))) .nil))
            (I := fun m env => ∃ xs acc s, VatOk xs ∧ acc.length = m ∧ (∀ a ∈ acc, sh (3 * n - 1) a = true) ∧ env = [.ow xs, .fz (.int n), .fz (.int way), .un, .ow acc, s, .un, .un]) (rangeD 0 (2 + t).toNat) 0 [.ow zs, .fz (.int n), .fz (.int way), .un, .ow [], .un, .un, .un] ⟨zs, [], .un, g1, rfl, by simp, rfl⟩ (by
              rintro m d env hd hm ⟨us, acc, s, u1, u2, u3, rfl⟩
              rw [length_rangeD] at hm
              obtain ⟨w, vs, k1, k2, k3⟩ := hs us [.int 1, .int 1, .int 1, .int 2, .int 3] u1 (by decide) (by decide)
              obtain ⟨c, ws, l1, l2, l3⟩ := ih (by omega) vs k1
              have hw : ∃ i, w = .int i := by
                simp only [List.mem_cons, List.not_mem_nil, or_false] at k2
                rcases k2 with rfl | rfl | rfl | rfl | rfl <;> exact ⟨_, rfl⟩
              obtain ⟨i, rfl⟩ := hw
              have hll : acc.length < line := by unfold line; omega
              refine ⟨[.ow ws, .fz (.int n), .fz (.int way), .un, .ow (acc ++ [.tup [.int i, c]]), .fz d, .un, .un], ?_, ws, _, _, l1, by simp [u2], fun a ha => ?_, rfl⟩
              · simp [k3, l3, hll]
              · rcases List.mem_append.mp ha with ha | ha
                · exact u3 a ha
                · have : a = .tup [.int i, c] := by simpa using ha
                  rw [this, show 3 * n - 1 = (3 * n - 2) + 1 from by omega, sh]
                  simp [shs, sh_int, l2])
          obtain ⟨us, acc, s, u1, u2, u3, rfl⟩ := e2
          refine ⟨.tup [.str (Str.ofString "draw"), .tup acc], us, u1, ?_, ?_⟩
          · rw [sh]; simp only [shs, sh_str, ok_draw, Bool.true_and, Bool.and_true]
            rw [show 3 * n = (3 * n - 1) + 1 from by omega, sh]
            exact shs_all.mpr u3
          · have hr := rOk_small (i := 2 + t) (by omega) (by omega)
            unfold run Lib._law_contract
            simp [MF.start, hn, h4, w3, w7, g4, hr, e1, rd_s, rd_zo]
        · obtain ⟨c, zs, c1, c2, c3⟩ := ih (by omega) ys h1
          obtain ⟨t, us, u1, u2, u3, u4⟩ := hu zs 12 c1 (by omega) (by omega)
          have c2' : sh (3 * n) c = true := sh_mono (by omega) c2
          by_cases w7' : way = 7
          · subst w7'
            obtain ⟨w, vs, k1, k2, k3⟩ := hs us [.str (Str.ofString "cap"), .str (Str.ofString "floor"), .str (Str.ofString "more")] u1 (by decide) (by decide)
            have hw : sh (3 * n) w = true := by
              simp only [List.mem_cons, List.not_mem_nil, or_false] at k2
              rcases k2 with rfl | rfl | rfl <;> simp [sh_str]
            refine ⟨.tup [w, .int (t - 2), c], vs, k1, ?_, ?_⟩
            · rw [sh]; simp [shs, sh_int, hw, c2']
            · unfold run Lib._law_contract
              simp [MF.start, hn, h4, c3, u4, k3, rd_s, rd_zo]
          · have e7 : (way == 7) = false := by rw [beq_eq_false_iff_ne]; exact w7'
            by_cases w8 : way = 8
            · subst w8
              obtain ⟨a, vs, a1, a2, a3, a4⟩ := hu us 4 u1 (by omega) (by omega)
              obtain ⟨b, ws, b1, b2, b3, b4⟩ := hu vs 3 a1 (by omega) (by omega)
              refine ⟨.tup [.str (Str.ofString "share"), .int a, .int (1 + b), c], ws, b1, ?_, ?_⟩
              · rw [sh]; simp [shs, sh_int, sh_str, c2']
              · unfold run Lib._law_contract
                simp [MF.start, hn, h4, c3, u4, a4, b4, rd_s, rd_zo]
            · have e8 : (way == 8) = false := by rw [beq_eq_false_iff_ne]; exact w8
              obtain ⟨a, vs, a1, a2, a3, a4⟩ := hu us 4 u1 (by omega) (by omega)
              obtain ⟨b, ws, b1, b2, b3, b4⟩ := hu vs 2 a1 (by omega) (by omega)
              refine ⟨.tup [.str (Str.ofString "insured"), .int a, .int ((if a > 1 then a else 1) + b), .int (t - 2), c], ws, b1, ?_, ?_⟩
              · rw [sh]; simp [shs, sh_int, sh_str, c2']
              · unfold run Lib._law_contract
                simp [MF.start, hn, h4, w3, w7, c3, u4, a4, b4, e7, e8, rd_s, rd_zo]
    · obtain ⟨v, zs, g1, g2, g3⟩ := sure xs hx (.fz (.int n)) (.fz (.int 0)) .un .un .un .un .un
      refine ⟨v, zs, g1, sh_mono (by omega) g2, ?_⟩
      unfold run Lib._law_contract
      simp [MF.start, hn, g3, -ev_tup]
theorem small_ok {T : Tab} (F : HasDraw T) (k : Nat) {n : Nat} (hn : n ≤ 16) {xs : List D} (hx : VatOk xs) :
    ∃ (v : D) (ys : List D), VatOk ys ∧ sh 55 v = true ∧ isC v = true ∧ call T (k + 10 + n + 1) (Str.ofString "_law_small") xs [.int n] = .ok (.v v, ys) := by
  obtain ⟨v, ys, h1, h2, h3⟩ := contract_ok F.toHasUnder F.contract (k + 7) n hx
  have h4 := isc_ok F.toHasShape (k + n) (v := v) (sh_mono (by omega) h2)
  rw [call_of F.small]
  rw [show k + 7 + 3 + n = k + 10 + n from by omega] at h3
  rw [show k + n + 10 = k + 10 + n from by omega] at h4
  generalize call T (k + 10 + n) = C at h3 h4
  have hfix : isC (.tup [.str (Str.ofString "draw"), .tup [.tup [.int 1, .tup [.str (Str.ofString "sure"), .int 1]], .tup [.int 1, .tup [.str (Str.ofString "sure"), .int 6]]]]) = true := by decide +kernel
  cases hc : isC v with
  | true =>
    rw [hc] at h4
    refine ⟨v, ys, h1, sh_mono (by omega) h2, hc, ?_⟩
    unfold run Lib._law_small
    simp [MF.start, h3, h4]
  | false =>
    rw [hc] at h4
    refine ⟨_, ys, h1, ?_, hfix, ?_⟩
    · decide +kernel
    · unfold run Lib._law_small
      simp [MF.start, h3, h4]
end MP

end
section
set_option linter.all false
set_option maxRecDepth 100000
set_option maxHeartbeats 2000000
set_option exponentiation.threshold 10000
/-! Means; what is equal to itself. -/
namespace MP
open PySem (Str)
mutual
theorem dq_refl : ∀ (d : D) (n : Nat), sh n d = true → dq d d = true
  | .non, _, _ => rfl
  | .bl b, _, _ => by simp [dq]
  | .int i, _, _ => by simp [dq]
  | .str x, _, _ => by simp [dq]
  | .tup ds, 0, h => by simp [sh] at h
  | .tup ds, n + 1, h => by rw [sh] at h; rw [dq]; exact dqs_refl ds n h
  | .lst ds, 0, h => by simp [sh] at h
  | .lst ds, n + 1, h => by rw [sh] at h; rw [dq]; exact dqs_refl ds n h
  | .frz _, n, h => by cases n <;> simp [sh] at h
  | .fn _, n, h => by cases n <;> simp [sh] at h
  | .dic _, n, h => by cases n <;> simp [sh] at h
theorem dqs_refl : ∀ (ds : List D) (n : Nat), shs n ds = true → dqs ds ds = true
  | [], _, _ => rfl
  | d :: ds, n, h => by
    rw [shs, Bool.and_eq_true] at h
    rw [dqs, dq_refl d n h.1, dqs_refl ds n h.2]; rfl
end
theorem ne_self {d : D} (h : sh 60 d = true) : cmp2 .ne d d = .ok false := by rw [cmp_ne h h, dq_refl d 60 h]; rfl
theorem eq_self {d : D} (h : sh 60 d = true) : cmp2 .eq d d = .ok true := by rw [cmp_eq h h, dq_refl d 60 h]
theorem sh_rows (rs : Prs) : sh 60 (.lst (rs.map rowD)) = true := by
  rw [sh]
  refine shs_all.mpr fun d hd => ?_
  obtain ⟨r, _, rfl⟩ := List.mem_map.mp hd
  rfl
theorem sh_fr (q : Rat) : sh 60 (fr q) = true := rfl
def meanQ (rs : Prs) : Rat := sumQ 0 (rs.map fun r => r.1 * r.2)
theorem SmAll_wt {M B : Nat} (hM : 0 < M) (hB : B * M < Big) (hM2 : M < Big) : ∀ (rs : Prs) (a u : Rat), 0 ≤ u → u + sumP rs ≤ 1 → -(B : Rat) * u ≤ a → a ≤ (B : Rat) * u → Wh M a → (∀ r ∈ rs, 0 < r.2 ∧ Wh M (r.1 * r.2) ∧ Ab B r.1) → SmAll a (rs.map fun r => r.1 * r.2)
  | [], a, u, h0, h1, h2, h3, h4, _ => by
    have hb : (0 : Rat) ≤ (B : Rat) := by exact_mod_cast Nat.zero_le B
    simp only [sumP] at h1
    have := Rat.mul_le_mul_of_nonneg_left (show u ≤ 1 by grind) hb
    exact Sm_of h4 ⟨by grind, by grind⟩ hM hB hM2
  | r :: rs, a, u, h0, h1, h2, h3, h4, h => by
    obtain ⟨r0, rw', ra⟩ := h r (by simp)
    have hb : (0 : Rat) ≤ (B : Rat) := by exact_mod_cast Nat.zero_le B
    have hs := sumP_nonneg (rs := rs) fun x hx => by have := (h x (by simp [hx])).1; grind
    simp only [sumP] at h1
    have q1 := Rat.mul_le_mul_of_nonneg_left (show u ≤ 1 by grind) hb
    have q2 := Rat.mul_le_mul_of_nonneg_left (show r.2 ≤ 1 by grind) hb
    have q3 := Rat.mul_le_mul_of_nonneg_right ra.1 (show 0 ≤ r.2 by grind)
    have q4 := Rat.mul_le_mul_of_nonneg_right ra.2 (show 0 ≤ r.2 by grind)
    refine ⟨Sm_of h4 ⟨by grind, by grind⟩ hM hB hM2, Sm_of rw' ⟨by grind, by grind⟩ hM hB hM2, SmAll_wt hM hB hM2 rs (a + r.1 * r.2) (u + r.2) (by grind) (by grind) (by grind) (by grind) (h4.add rw') fun x hx => h x (by simp [hx])⟩
theorem big_all : bA 6 * (mA 6 * mC 6) < Big := by decide +kernel
theorem Dis.mean {n : Nat} {rs : Prs} (h : Dis (mA 6) (bA 6) (mC 6) n 1 rs) : SmAll 0 (rs.map fun r => r.1 * r.2) := by
  refine SmAll_wt (M := mA 6 * mC 6) (B := bA 6) (Nat.mul_pos (mA_pos 6) (mC_pos 6)) big_all (by decide +kernel) rs 0 0 (by grind) (by rw [h.tot]; grind) (by simp) (by simp) (Wh.zero _) fun r hr => ⟨h.pos r hr, (h.amt r hr).1.mul (h.wh r hr), (h.amt r hr).2⟩
structure HasMean (T : Tab) : Prop extends HasRows T where
  mean_of : T (Str.ofString "mean_of") = some Lib.mean_of
theorem sm_chance {n : Nat} {rs : Prs} (h : Dis (mA 6) (bA 6) (mC 6) n 1 rs) {r : Rat × Rat} (hr : r ∈ rs) : Sm r.2 := by
  have p1 := h.pos r hr
  have p2 := sumP_mem (rs := rs) (fun r hx => by have := h.pos r hx; grind) r hr
  rw [h.tot] at p2
  exact Sm_of (h.wh r hr) (Ab.one (by grind) p2) (mC_pos 6) (by rw [Nat.one_mul]; exact mC_lt (by omega)) (mC_lt (by omega))
theorem sm_amount {n : Nat} {rs : Prs} (h : Dis (mA 6) (bA 6) (mC 6) n 1 rs) {r : Rat × Rat} (hr : r ∈ rs) : Sm r.1 := Sm_amt (d := 6) (by omega) (h.amt r hr).1 (h.amt r hr).2
theorem mean_of_ok {T : Tab} (F : HasMean T) (k : Nat) {n : Nat} {rs : Prs} (h : Dis (mA 6) (bA 6) (mC 6) n 1 rs) : call T (k + 4) (Str.ofString "mean_of") [] [.lst (rs.map rowD)] = .ok (.v (fr (meanQ rs)), []) := by
  rw [call_of F.mean_of]
  have lt := fun (p q : Rat) hp hq => times_ok F.toHasFrac (k + 1) (p := p) (q := q) hp hq
  have ls := total_ok F.toHasFrac k h.mean
  rw [show k + 1 + 2 = k + 3 from rfl] at lt
  generalize call T (k + 3) = C at lt ls
  unfold meanQ
  obtain ⟨e2, h2, s1, s2, rfl⟩ := loopC_map (t := turnC C (.tp2 (.nm 1) (.nm 2)) .none (.call (Str.ofString "times") (.cons (.var 1) (.cons (.var 2) .nil))) [1, 2]) (f := rowD) (g := fun r => fr (r.1 * r.2))
    (I := fun env => ∃ s t, env = [.fz (.lst (rs.map rowD)), s, t]) rs [.fz (.lst (rs.map rowD)), .un, .un] [] ⟨_, _, rfl⟩ (by
      rintro r hr env ⟨s, t, rfl⟩
      refine ⟨[.fz (.lst (rs.map rowD)), .fz (fr r.1), .fz (fr r.2)], ?_, ⟨_, _, rfl⟩⟩
      have z : rowD r = .tup [fr r.1, fr r.2] := rfl
      have l1 := lt r.1 r.2 (sm_amount h hr) (sm_chance h hr)
      rw [z]
      simp [l1])
  have hm : rs.map (fun r => fr (r.1 * r.2)) = (rs.map fun r => r.1 * r.2).map fr := by rw [List.map_map]; rfl
  rw [hm] at h2
  have n3 : noOwn [Sl.fz (.lst (rs.map rowD)), .un, .un] [1, 2] = true := rfl
  generalize (rs.map fun r => r.1 * r.2) = qs at h2 ls ⊢
  unfold run Lib.mean_of
  simp at h2
  simp [MF.start, n3, h2, ls]
theorem mem_rangeD : ∀ (n : Nat) (lo : Int) {d : D}, d ∈ rangeD lo n → ∃ i, d = .int i ∧ lo ≤ i ∧ i < lo + n
  | 0, lo, d, h => by simp [rangeD] at h
  | n + 1, lo, d, h => by
    rw [rangeD] at h
    rcases List.mem_cons.mp h with rfl | h
    · exact ⟨lo, rfl, Int.le_refl _, by omega⟩
    · obtain ⟨i, h1, h2, h3⟩ := mem_rangeD n (lo + 1) h
      exact ⟨i, h1, by omega, by omega⟩
theorem dis6 {c : Ctr} (h : c.ok 6) : Dis (mA 6) (bA 6) (mC 6) c.ends 1 (rowsQ c) := rows_dis h
end MP

end
section
set_option linter.all false
set_option maxRecDepth 100000
/-! Readings of defs (printed by gen2.py). -/
namespace LibP
open MP
open PySem (Str)
def is_fraction : MF := { np := 1, ns := 2, own := false, body := (.cons (.iff (.or (.not (.v (.isi [.tuple] (.var 0)))) (.v (.cmp .ne (.lenv 0) (.con (.int 2))))) (.cons (.ret (.con (.bl false))) .nil) .nil) (.cons (.forr (.nm 1) (.v (.var 0)) (.cons (.iff (.or (.not (.v (.isi [.int] (.var 1)))) (.v (.isi [.bool] (.var 1)))) (.cons (.ret (.con (.bl false))) .nil) .nil) .nil)) (.cons (.ret (.and (.cmp .ge (.ixv 0 (.con (.int 1))) (.con (.int 1))) (.cmp .eq (.call (PySem.Str.ofString "lowest") (.cons (.ixv 0 (.con (.int 0))) (.cons (.ixv 0 (.con (.int 1))) .nil))) (.var 0)))) .nil))) }
def has_person : MF := { np := 1, ns := 3, own := false, body := (.cons (.iff (.or (.not (.v (.isi [.tuple] (.var 0)))) (.or (.v (.cmp .ne (.lenv 0) (.con (.int 2)))) (.or (.not (.v (.isi [.tuple] (.ixv 0 (.con (.int 1)))))) (.v (.cmp .gt (.bi .len (.cons (.ixv 0 (.con (.int 1))) .nil)) (.con (.int 30))))))) (.cons (.ret (.con (.bl false))) .nil) .nil) (.cons (.iff (.or (.not (.v (.isi [.int] (.ixv 0 (.con (.int 0)))))) (.or (.v (.isi [.bool] (.ixv 0 (.con (.int 0))))) (.or (.v (.cmp .lt (.ixv 0 (.con (.int 0))) (.con (.int 0)))) (.v (.cmp .eq (.var 0) (.tup (.cons (.con (.int 0)) (.cons (.tup .nil) .nil)))))))) (.cons (.ret (.con (.bl false))) .nil) .nil) (.cons (.forr (.nm 1) (.v (.ixv 0 (.con (.int 1)))) (.cons (.iff (.or (.not (.v (.isi [.tuple] (.var 1)))) (.or (.v (.cmp .ne (.lenv 1) (.con (.int 2)))) (.not (.v (.call (PySem.Str.ofString "is_fraction") (.cons (.ixv 1 (.con (.int 0))) .nil)))))) (.cons (.ret (.con (.bl false))) .nil) .nil) (.cons (.iff (.or (.not (.v (.isi [.int] (.ixv 1 (.con (.int 1)))))) (.or (.v (.isi [.bool] (.ixv 1 (.con (.int 1))))) (.v (.cmp .lt (.ixv 1 (.con (.int 1))) (.con (.int 1)))))) (.cons (.ret (.con (.bl false))) .nil) .nil) .nil))) (.cons (.asg 2 false (.comp (.nm 1) (.v (.ixv 0 (.con (.int 1)))) .none (.ixv 1 (.con (.int 0))) [1])) (.cons (.ret (.or (.cmp .eq (.var 2) (.lst .nil)) (.cmp .eq (.var 2) (.call (PySem.Str.ofString "in_order") (.cons (.var 2) .nil))))) .nil))))) }
def is_person : MF := { np := 1, ns := 1, own := false, body := (.cons (.ret (.call (PySem.Str.ofString "has_person") (.cons (.var 0) .nil))) .nil) }
def _law_is_fraction : MF := { np := 1, ns := 2, own := false, body := (.cons (.iff (.or (.not (.v (.isi [.tuple] (.var 0)))) (.v (.cmp .ne (.lenv 0) (.con (.int 2))))) (.cons (.ret (.con (.bl false))) .nil) .nil) (.cons (.iff (.v (.cmp .ne (.comp (.nm 1) (.v (.var 0)) (.some (.or (.not (.v (.isi [.int] (.var 1)))) (.v (.isi [.bool] (.var 1))))) (.var 1) [1]) (.lst .nil))) (.cons (.ret (.con (.bl false))) .nil) .nil) (.cons (.ret (.and (.cmp .gt (.ixv 0 (.con (.int 1))) (.con (.int 0))) (.cmp .eq (.call (PySem.Str.ofString "_law_low") (.cons (.ixv 0 (.con (.int 0))) (.cons (.ixv 0 (.con (.int 1))) .nil))) (.var 0)))) .nil))) }
def _law_is_person : MF := { np := 1, ns := 3, own := false, body := (.cons (.iff (.or (.not (.v (.isi [.tuple] (.var 0)))) (.or (.v (.cmp .ne (.lenv 0) (.con (.int 2)))) (.or (.not (.v (.isi [.tuple] (.ixv 0 (.con (.int 1)))))) (.v (.cmp .gt (.bi .len (.cons (.ixv 0 (.con (.int 1))) .nil)) (.con (.int 30))))))) (.cons (.ret (.con (.bl false))) .nil) .nil) (.cons (.forr (.nm 1) (.v (.ixv 0 (.con (.int 1)))) (.cons (.iff (.or (.not (.v (.isi [.tuple] (.var 1)))) (.or (.v (.cmp .ne (.lenv 1) (.con (.int 2)))) (.not (.v (.call (PySem.Str.ofString "_law_is_fraction") (.cons (.ixv 1 (.con (.int 0))) .nil)))))) (.cons (.ret (.con (.bl false))) .nil) .nil) (.cons (.iff (.or (.not (.v (.isi [.int] (.ixv 1 (.con (.int 1)))))) (.or (.v (.isi [.bool] (.ixv 1 (.con (.int 1))))) (.v (.cmp .lt (.ixv 1 (.con (.int 1))) (.con (.int 1)))))) (.cons (.ret (.con (.bl false))) .nil) .nil) .nil))) (.cons (.asg 2 false (.comp (.nm 1) (.v (.ixv 0 (.con (.int 1)))) .none (.ixv 1 (.con (.int 0))) [1])) (.cons (.iff (.or (.not (.v (.isi [.int] (.ixv 0 (.con (.int 0)))))) (.or (.v (.isi [.bool] (.ixv 0 (.con (.int 0))))) (.v (.cmp .lt (.ixv 0 (.con (.int 0))) (.con (.int 0)))))) (.cons (.ret (.con (.bl false))) .nil) .nil) (.cons (.ret (.and (.cmp .eq (.var 2) (.call (PySem.Str.ofString "_law_ordered") (.cons (.var 2) .nil))) (.or (.cmp .gt (.ixv 0 (.con (.int 0))) (.con (.int 0))) (.cmp .ne (.var 2) (.lst .nil))))) .nil))))) }
def _law_truly : MF := { np := 2, ns := 2, own := false, body := (.cons (.ret (.and (.isi [.bool] (.var 0)) (.cmp .eq (.var 0) (.var 1)))) .nil) }
def _law_odd : MF := { np := 2, ns := 5, own := true, body := (.cons (.asg 2 false (.lst (.cons (.con .non) (.cons (.con (.bl true)) (.cons (.con (.bl false)) (.cons (.con (.int 0)) (.cons (.con (.int 1)) (.cons (.con (.int 7)) (.cons (.neg (.con (.int 1))) (.cons (.bin .pow (.con (.int 10)) (.con (.int 31))) (.cons (.con (.str (PySem.Str.ofString ""))) (.cons (.con (.str (PySem.Str.ofString "sure"))) (.cons (.con (.str (PySem.Str.ofString "draw"))) (.cons (.tup .nil) (.cons (.lst .nil) (.cons (.tup (.cons (.con (.int 0)) (.cons (.con (.int 1)) .nil))) (.cons (.tup (.cons (.con (.int 1)) (.cons (.tup .nil) .nil))) (.cons (.tup (.cons (.con (.int 0)) (.cons (.tup .nil) .nil))) .nil)))))))))))))))))) (.cons (.asg 2 false (.bin .add (.var 2) (.lst (.cons (.tup (.cons (.con (.str (PySem.Str.ofString "sure"))) (.cons (.con (.int 1)) .nil))) (.cons (.tup (.cons (.con (.str (PySem.Str.ofString "sure"))) (.cons (.con (.int 1001)) .nil))) (.cons (.tup (.cons (.con (.int 0)) (.cons (.tup (.cons (.tup (.cons (.tup (.cons (.con (.int 1)) (.cons (.con (.int 2)) .nil))) (.cons (.con (.int 1)) .nil))) .nil)) .nil))) (.cons (.tup (.cons (.tup (.cons (.con (.int 1)) (.cons (.con (.int 2)) .nil))) (.cons (.tup (.cons (.con (.int 1)) (.cons (.con (.int 2)) .nil))) .nil))) (.cons (.tup (.cons (.con (.str (PySem.Str.ofString "cap"))) (.cons (.con (.int 3)) (.cons (.tup (.cons (.con (.str (PySem.Str.ofString "sure"))) (.cons (.con (.int 2)) .nil))) .nil)))) .nil)))))))) (.cons (.iff (.or (.v (.cmp .eq (.var 1) (.con (.int 0)))) (.v (.cmp .lt (.callo (PySem.Str.ofString "_law_under") 0 (.cons (.con (.int 9)) .nil)) (.con (.int 6))))) (.cons (.ret (.callo (PySem.Str.ofString "_law_some") 0 (.cons (.var 2) .nil))) .nil) .nil) (.cons (.asg 3 false (.comp (.nm 4) (.r1 (.callo (PySem.Str.ofString "_law_under") 0 (.cons (.con (.int 4)) .nil))) .none (.callo (PySem.Str.ofString "_law_odd") 0 (.cons (.bin .sub (.var 1) (.con (.int 1))) .nil)) [4])) (.cons (.ret (.ife (.v (.cmp .eq (.callo (PySem.Str.ofString "_law_under") 0 (.cons (.con (.int 3)) .nil)) (.con (.int 0)))) (.var 3) (.bi .tuple (.cons (.var 3) .nil)))) .nil))))) }
def _law_bent : MF := { np := 2, ns := 5, own := true, body := (.cons (.iff (.or (.not (.v (.isi [.tuple] (.var 1)))) (.or (.v (.cmp .eq (.var 1) (.tup .nil))) (.v (.cmp .eq (.callo (PySem.Str.ofString "_law_under") 0 (.cons (.con (.int 7)) .nil)) (.con (.int 0)))))) (.cons (.asg 2 false (.lst (.cons (.callo (PySem.Str.ofString "_law_odd") 0 (.cons (.con (.int 1)) .nil)) (.cons (.callo (PySem.Str.ofString "_law_odd") 0 (.cons (.con (.int 1)) .nil)) .nil)))) (.cons (.iff (.v (.isi [.str] (.var 1))) (.cons (.asg 2 false (.bin .add (.var 2) (.lst (.cons (.con (.str (PySem.Str.ofString "sure"))) (.cons (.con (.str (PySem.Str.ofString "draw"))) (.cons (.con (.str (PySem.Str.ofString "cap"))) (.cons (.con (.str (PySem.Str.ofString "floor"))) (.cons (.con (.str (PySem.Str.ofString "more"))) (.cons (.con (.str (PySem.Str.ofString "share"))) (.cons (.con (.str (PySem.Str.ofString "insured"))) (.cons (.bin .add (.var 1) (.con (.str (PySem.Str.ofString "s")))) .nil))))))))))) .nil) (.cons (.iff (.v (.isi [.int] (.var 1))) (.cons (.asg 2 false (.bin .add (.var 2) (.lst (.cons (.bin .add (.var 1) (.con (.int 1))) (.cons (.bin .sub (.var 1) (.con (.int 1))) (.cons (.not (.var 1)) (.cons (.bi .str (.cons (.var 1) .nil)) (.cons (.bin .add (.var 1) (.con (.int 13))) (.cons (.bin .mul (.con (.int 2)) (.var 1)) .nil))))))))) .nil) .nil) .nil)) (.cons (.ret (.callo (PySem.Str.ofString "_law_some") 0 (.cons (.var 2) .nil))) .nil))) .nil) (.cons (.par [(3, false), (4, false)] (.cons (.callo (PySem.Str.ofString "_law_under") 0 (.cons (.lenv 1) .nil)) (.cons (.callo (PySem.Str.ofString "_law_under") 0 (.cons (.con (.int 9)) .nil)) .nil))) (.cons (.iff (.v (.cmp .eq (.var 4) (.con (.int 0)))) (.cons (.ret (.bin .add (.sl (.var 1) .none (.some (.var 3))) (.sl (.var 1) (.some (.bin .add (.var 3) (.con (.int 1)))) .none))) .nil) .nil) (.cons (.iff (.v (.cmp .eq (.var 4) (.con (.int 1)))) (.cons (.ret (.bin .add (.sl (.var 1) .none (.some (.bin .add (.var 3) (.con (.int 1))))) (.sl (.var 1) (.some (.var 3)) .none))) .nil) .nil) (.cons (.iff (.v (.cmp .eq (.var 4) (.con (.int 2)))) (.cons (.ret (.rev (.var 1))) .nil) .nil) (.cons (.iff (.v (.cmp .eq (.var 4) (.con (.int 3)))) (.cons (.ret (.bi .list (.cons (.var 1) .nil))) .nil) .nil) (.cons (.ret (.bin .add (.bin .add (.sl (.var 1) .none (.some (.var 3))) (.tup (.cons (.callo (PySem.Str.ofString "_law_bent") 0 (.cons (.ixv 1 (.var 3)) .nil)) .nil))) (.sl (.var 1) (.some (.bin .add (.var 3) (.con (.int 1)))) .none))) .nil))))))) }
def _law_person : MF := { np := 1, ns := 3, own := true, body := (.cons (.asg 1 false (.tup .nil)) (.cons (.forr (.nm 2) (.r2 (.neg (.con (.int 4))) (.con (.int 12))) (.cons (.iff (.v (.cmp .eq (.callo (PySem.Str.ofString "_law_under") 0 (.cons (.con (.int 7)) .nil)) (.con (.int 0)))) (.cons (.asg 1 false (.bin .add (.var 1) (.tup (.cons (.tup (.cons (.call (PySem.Str.ofString "_law_low") (.cons (.bin .add (.bin .mul (.con (.int 2)) (.var 2)) (.callo (PySem.Str.ofString "_law_under") 0 (.cons (.con (.int 2)) .nil))) (.cons (.con (.int 2)) .nil))) (.cons (.bin .add (.con (.int 1)) (.callo (PySem.Str.ofString "_law_under") 0 (.cons (.con (.int 4)) .nil))) .nil))) .nil)))) .nil) .nil) .nil)) (.cons (.ret (.tup (.cons (.ife (.v (.cmp .ne (.var 1) (.tup .nil))) (.callo (PySem.Str.ofString "_law_under") 0 (.cons (.con (.int 3)) .nil)) (.con (.int 1))) (.cons (.var 1) .nil)))) .nil))) }
end LibP

end
section
set_option linter.all false
set_option maxRecDepth 100000
set_option maxHeartbeats 4000000
set_option exponentiation.threshold 10000
/-! Fractions and people, of any value. -/
namespace MP
open PySem (Str)
/-- an int, no bool -/
def intB : D → Bool
  | .int _ => true
  | _ => false
theorem intB_is {d : D} (h : intB d = true) : ∃ i, d = .int i := by cases d <;> first | exact ⟨_, rfl⟩ | cases h
/-- a value is a fraction -/
def frB : D → Bool
  | .tup [.int a, .int b] => decide (1 ≤ b) && dq (fr (mkRat a b.toNat)) (.tup [.int a, .int b])
  | _ => false
theorem frB_is {v : D} (h : frB v = true) : ∃ q : Rat, v = fr q := by
  unfold frB at h
  split at h
  · rename_i a b
    rw [Bool.and_eq_true, decide_eq_true_eq] at h
    refine ⟨mkRat a b.toNat, ?_⟩
    have := h.2
    unfold fr at this ⊢
    simp [dq, dqs] at this
    rw [this.1, this.2]
  · cases h
/-- few signs in its numbers -/
def smV (v : D) : Prop := ∀ a b, v = .tup [.int a, .int b] → b.natAbs < 2 ^ 9000
structure HasPers (T : Tab) : Prop extends HasOrd T where
  isf : T (Str.ofString "is_fraction") = some LibP.is_fraction
  hasp : T (Str.ofString "has_person") = some LibP.has_person
structure HasLPers (T : Tab) : Prop where
  low : T (Str.ofString "_law_low") = some Lib._law_low
  less : T (Str.ofString "_law_less") = some Lib._law_less
  ordered : T (Str.ofString "_law_ordered") = some Lib._law_ordered
  isf : T (Str.ofString "_law_is_fraction") = some LibP._law_is_fraction
  isp : T (Str.ofString "_law_is_person") = some LibP._law_is_person
theorem dq_comm2 (a b c d : Int) : dq (.tup [.int a, .int b]) (.tup [.int c, .int d]) = ((a == c) && (b == d)) := by simp [dq, dqs]
theorem int_ty {d : D} {n : Nat} (h : sh n d = true) : tyOk d = true ∧ ([Ty.int].any (isTy d) = true ↔ (∃ i, d = .int i) ∨ ∃ b, d = .bl b) := by
  refine ⟨sh_ty h, ?_⟩
  cases d <;> simp [isTy]
theorem isf_turn {C : CallF} {s0 s1 : Sl} {d : D} {n : Nat} (h : sh n d = true) :
    turn C (.nm 1) (.cons (.iff (.or (.not (.v (.isi [.int] (.var 1)))) (.v (.isi [.bool] (.var 1)))) (.cons (.ret (.con (.bl false))) .nil) .nil) .nil) d [s0, s1] = .ok (if intB d then .nx else .rt (.v (.bl false)), [s0, .fz d]) := by
  have ht := sh_ty h
  cases d <;> simp [ht, intB, isTy] <;> first | rfl | cases ht
theorem isf_ok {T : Tab} (F : HasPers T) (k : Nat) {v : D} (hv : sh 59 v = true) (hs : smV v) : call T (k + 2) (Str.ofString "is_fraction") [] [v] = .ok (.v (.bl (frB v)), []) := by
  rw [call_of F.isf]
  have ht := sh_ty hv
  cases v with
  | tup ds =>
    match ds, hv, hs with
    | [], _, _ => generalize call T (k + 1) = C; unfold run LibP.is_fraction; simp [MF.start, frB]
    | [a], _, _ => generalize call T (k + 1) = C; unfold run LibP.is_fraction; simp [MF.start, frB]
    | a :: b :: c :: r, _, _ =>
      generalize call T (k + 1) = C
      have : ¬ ((r.length : Int) + 1 + 1 + 1 = 2) := by omega
      unfold run LibP.is_fraction
      simp [MF.start, frB, this]
    | [a, b], hv, hs =>
      have ha := sh_tup hv a (by simp)
      have hb := sh_tup hv b (by simp)
      have t1 := fun (C : CallF) s0 s1 => isf_turn (C := C) (s0 := s0) (s1 := s1) ha
      have t2 := fun (C : CallF) s0 s1 => isf_turn (C := C) (s0 := s0) (s1 := s1) hb
      cases ia : intB a with
      | false =>
        generalize call T (k + 1) = C
        have e : frB (.tup [a, b]) = false := by cases a <;> first | rfl | cases ia
        rw [e]
        have e1 : forL (turn C (.nm 1) (.cons (.iff (.or (.not (.v (.isi [.int] (.var 1)))) (.v (.isi [.bool] (.var 1)))) (.cons (.ret (.con (.bl false))) .nil) .nil) .nil)) [a, b] [.fz (.tup [a, b]), .un] = .ok (.rt (.v (.bl false)), [.fz (.tup [a, b]), .fz a]) := by
          rw [forL_cons, t1 C, ia]; rfl
        unfold run LibP.is_fraction
        simp [MF.start, e1, -forL_cons, -turn_app]
      | true =>
        obtain ⟨i, rfl⟩ := intB_is ia
        cases ib : intB b with
        | false =>
          generalize call T (k + 1) = C
          have e : frB (.tup [.int i, b]) = false := by cases b <;> first | rfl | cases ib
          rw [e]
          have e1 : forL (turn C (.nm 1) (.cons (.iff (.or (.not (.v (.isi [.int] (.var 1)))) (.v (.isi [.bool] (.var 1)))) (.cons (.ret (.con (.bl false))) .nil) .nil) .nil)) [.int i, b] [.fz (.tup [.int i, b]), .un] = .ok (.rt (.v (.bl false)), [.fz (.tup [.int i, b]), .fz b]) := by
            rw [forL_cons, t1 C]
            simp only [bind_ok', ia, if_pos]
            rw [forL_cons, t2 C, ib]; rfl
          unfold run LibP.is_fraction
          simp [MF.start, e1, -forL_cons, -turn_app]
        | true =>
          obtain ⟨j, rfl⟩ := intB_is ib
          have e1 : ∀ C, forL (turn C (.nm 1) (.cons (.iff (.or (.not (.v (.isi [.int] (.var 1)))) (.v (.isi [.bool] (.var 1)))) (.cons (.ret (.con (.bl false))) .nil) .nil) .nil)) [.int i, .int j] [.fz (.tup [.int i, .int j]), .un] = .ok (.nx, [.fz (.tup [.int i, .int j]), .fz (.int j)]) := fun C => by
            rw [forL_cons, t1 C]
            simp only [bind_ok', ia, if_pos]
            rw [forL_cons, t2 C]
            simp only [bind_ok', ib, if_pos, forL_nil]
          by_cases hj : 1 ≤ j
          · have hsz := hs i j rfl
            have l := lowest_fr F.lowest k i j.toNat (by omega) (by omega)
            rw [show ((j.toNat : Nat) : Int) = j from by omega] at l
            generalize call T (k + 1) = C at l
            have e : frB (.tup [.int i, .int j]) = dq (fr (mkRat i j.toNat)) (.tup [.int i, .int j]) := by
              show (decide (1 ≤ j) && _) = _
              rw [decide_eq_true hj, Bool.true_and]
            rw [e]
            have c1 : cmp2 .eq (fr (mkRat i j.toNat)) (.tup [.int i, .int j]) = .ok (dq (fr (mkRat i j.toNat)) (.tup [.int i, .int j])) := cmp_eq rfl rfl
            unfold run LibP.is_fraction
            simp [MF.start, e1, l, c1, hj, -forL_cons, -turn_app]
          · generalize call T (k + 1) = C
            have e : frB (.tup [.int i, .int j]) = false := by
              show (decide (1 ≤ j) && _) = _
              rw [decide_eq_false hj, Bool.false_and]
            rw [e]
            unfold run LibP.is_fraction
            simp [MF.start, e1, hj, -forL_cons, -turn_app]
  | _ =>
    generalize call T (k + 1) = C
    unfold run LibP.is_fraction
    first
      | (cases ht; done)
      | (simp [MF.start, isTy, tyOk, frB]; done)
end MP

end
section
set_option linter.all false
set_option maxRecDepth 100000
set_option maxHeartbeats 4000000
set_option exponentiation.threshold 10000
/-! The law's fractions, of any value. -/
namespace MP
open PySem (Str)
abbrev condN : MC := .some (.or (.not (.v (.isi [.int] (.var 1)))) (.v (.isi [.bool] (.var 1))))
theorem lisf_turn {C : CallF} {s0 s1 : Sl} {d : D} {n : Nat} (h : sh n d = true) : turnC C (.nm 1) condN (.var 1) [1] d [s0, s1] = .ok (if intB d then none else some d, [s0, .fz d]) := by
  have ht := sh_ty h
  cases d <;> simp [ht, intB, isTy] <;> first | rfl | cases ht
theorem ne_nil1 {a : D} (h : sh 59 a = true) : cmp2 .ne (.lst [a]) (.lst []) = .ok true := by
  rw [cmp_ne (by rw [sh]; simp [shs, h]) (by rfl)]; rfl
theorem ne_nil2 {a b : D} (h : sh 59 a = true) (h2 : sh 59 b = true) : cmp2 .ne (.lst [a, b]) (.lst []) = .ok true := by
  rw [cmp_ne (by rw [sh]; simp [shs, h, h2]) (by rfl)]; rfl
theorem ne_nil0 : cmp2 .ne (.lst []) (.lst []) = .ok false := by rw [cmp_ne (by rfl) (by rfl)]; rfl
theorem lisf_ok0 {T : Tab} (Fl : T (Str.ofString "_law_low") = some Lib._law_low) (Fi : T (Str.ofString "_law_is_fraction") = some LibP._law_is_fraction) (k : Nat) {v : D} (hv : sh 59 v = true) (hs : smV v) : call T (k + 2) (Str.ofString "_law_is_fraction") [] [v] = .ok (.v (.bl (frB v)), []) := by
  rw [call_of Fi]
  have ht := sh_ty hv
  cases v with
  | tup ds =>
    match ds, hv, hs with
    | [], _, _ => generalize call T (k + 1) = C; unfold run LibP._law_is_fraction; simp [MF.start, frB]
    | [a], _, _ => generalize call T (k + 1) = C; unfold run LibP._law_is_fraction; simp [MF.start, frB]
    | a :: b :: c :: r, _, _ =>
      generalize call T (k + 1) = C
      have : ¬ ((r.length : Int) + 1 + 1 + 1 = 2) := by omega
      unfold run LibP._law_is_fraction
      simp [MF.start, frB, this]
    | [a, b], hv, hs =>
      have ha := sh_tup hv a (by simp)
      have hb := sh_tup hv b (by simp)
      have ha' : sh 59 a = true := sh_mono (by omega) ha
      have hb' : sh 59 b = true := sh_mono (by omega) hb
      have t1 := fun (C : CallF) s0 s1 => lisf_turn (C := C) (s0 := s0) (s1 := s1) ha
      have t2 := fun (C : CallF) s0 s1 => lisf_turn (C := C) (s0 := s0) (s1 := s1) hb
      cases ia : intB a with
      | false =>
        generalize call T (k + 1) = C
        have e : frB (.tup [a, b]) = false := by cases a <;> first | rfl | cases ia
        rw [e]
        cases ib : intB b with
        | false =>
          have e1 : loopC (turnC C (.nm 1) condN (.var 1) [1]) [a, b] [.fz (.tup [a, b]), .un] [] = .ok ([a, b], [.fz (.tup [a, b]), .fz b]) := by
            rw [loopC_cons, t1 C, ia]; simp only [bind_ok']
            show loopC _ [b] _ ([] ++ [a]) = _
            rw [loopC_cons, t2 C, ib]; rfl
          have e2 := ne_nil2 ha' hb'
          unfold run LibP._law_is_fraction
          simp [MF.start, e1, e2, noOwn, -loopC_cons, -turnC_app]
        | true =>
          have e1 : loopC (turnC C (.nm 1) condN (.var 1) [1]) [a, b] [.fz (.tup [a, b]), .un] [] = .ok ([a], [.fz (.tup [a, b]), .fz b]) := by
            rw [loopC_cons, t1 C, ia]; simp only [bind_ok']
            show loopC _ [b] _ ([] ++ [a]) = _
            rw [loopC_cons, t2 C, ib]; rfl
          have e2 := ne_nil1 ha'
          unfold run LibP._law_is_fraction
          simp [MF.start, e1, e2, noOwn, -loopC_cons, -turnC_app]
      | true =>
        obtain ⟨i, rfl⟩ := intB_is ia
        cases ib : intB b with
        | false =>
          generalize call T (k + 1) = C
          have e : frB (.tup [.int i, b]) = false := by cases b <;> first | rfl | cases ib
          rw [e]
          have e1 : loopC (turnC C (.nm 1) condN (.var 1) [1]) [.int i, b] [.fz (.tup [.int i, b]), .un] [] = .ok ([b], [.fz (.tup [.int i, b]), .fz b]) := by
            rw [loopC_cons, t1 C, ia]; simp only [bind_ok']
            show loopC _ [b] _ [] = _
            rw [loopC_cons, t2 C, ib]; rfl
          have e2 := ne_nil1 hb'
          unfold run LibP._law_is_fraction
          simp [MF.start, e1, e2, noOwn, -loopC_cons, -turnC_app]
        | true =>
          obtain ⟨j, rfl⟩ := intB_is ib
          have e1 : ∀ C, loopC (turnC C (.nm 1) condN (.var 1) [1]) [.int i, .int j] [.fz (.tup [.int i, .int j]), .un] [] = .ok ([], [.fz (.tup [.int i, .int j]), .fz (.int j)]) := fun C => by
            rw [loopC_cons, t1 C, ia]; simp only [bind_ok']
            show loopC _ [.int j] _ [] = _
            rw [loopC_cons, t2 C, ib]; rfl
          have e2 := ne_nil0
          by_cases hj : 1 ≤ j
          · have hsz := hs i j rfl
            have l := low_ok Fl k i j.toNat (by omega) (by omega)
            rw [show ((j.toNat : Nat) : Int) = j from by omega] at l
            generalize call T (k + 1) = C at l
            have e : frB (.tup [.int i, .int j]) = dq (fr (mkRat i j.toNat)) (.tup [.int i, .int j]) := by
              show (decide (1 ≤ j) && _) = _
              rw [decide_eq_true hj, Bool.true_and]
            rw [e]
            have c1 : cmp2 .eq (fr (mkRat i j.toNat)) (.tup [.int i, .int j]) = .ok (dq (fr (mkRat i j.toNat)) (.tup [.int i, .int j])) := cmp_eq rfl rfl
            have hj' : 0 < j := by omega
            unfold run LibP._law_is_fraction
            simp [MF.start, e1, e2, l, c1, hj', noOwn, -loopC_cons, -turnC_app]
          · generalize call T (k + 1) = C
            have e : frB (.tup [.int i, .int j]) = false := by
              show (decide (1 ≤ j) && _) = _
              rw [decide_eq_false hj, Bool.false_and]
            rw [e]
            have hj' : ¬ 0 < j := by omega
            unfold run LibP._law_is_fraction
            simp [MF.start, e1, e2, hj', noOwn, -loopC_cons, -turnC_app]
  | _ =>
    generalize call T (k + 1) = C
    unfold run LibP._law_is_fraction
    first
      | (cases ht; done)
      | (simp [MF.start, isTy, tyOk, frB]; done)
theorem lisf_ok {T : Tab} (F : HasLPers T) (k : Nat) {v : D} (hv : sh 59 v = true) (hs : smV v) : call T (k + 2) (Str.ofString "_law_is_fraction") [] [v] = .ok (.v (.bl (frB v)), []) := lisf_ok0 F.low F.isf k hv hs
end MP

end
section
set_option linter.all false
set_option maxRecDepth 100000
set_option maxHeartbeats 4000000
set_option exponentiation.threshold 10000
/-! What a person is, of any value. -/
namespace MP
open PySem (Str)
def posB : D → Bool
  | .int i => decide (1 ≤ i)
  | _ => false
def kneeB : D → Bool
  | .tup [f, w] => frB f && posB w
  | _ => false
def kHead : D → D
  | .tup (f :: _) => f
  | _ => .non
def kq : D → Rat
  | .tup [.int a, .int b] => mkRat a b.toNat
  | _ => 0
theorem frB_kq {v : D} (h : frB v = true) : v = fr (kq v) := by
  unfold frB at h
  split at h
  · rename_i a b
    rw [Bool.and_eq_true] at h
    have := h.2
    show _ = fr (mkRat a b.toNat)
    unfold fr at this ⊢
    simp [dq, dqs] at this
    rw [this.1, this.2]
  · cases h
def perB : D → Bool
  | .tup [.int i, .tup ks] => decide (ks.length ≤ 30) && decide (0 ≤ i) && ks.all kneeB && !(decide (i = 0) && ks.isEmpty) && decide (ordQ (ks.map fun x => kq (kHead x)) = ks.map fun x => kq (kHead x))
  | _ => false
/-- the numbers of what may be a person are small -/
structure PerSm (v : D) : Prop where
  frs : ∀ s ks x f w, v = .tup [s, .tup ks] → x ∈ ks → x = .tup [f, w] → smV f
  all : ∀ s ks, v = .tup [s, .tup ks] → ks.length ≤ 30 → ks.all kneeB = true → ∃ N : Nat, 0 < N ∧ N < Big ∧ ∀ x ∈ ks, (kq (kHead x)).den ∣ N ∧ (kq (kHead x)).num.natAbs < Big
abbrev kneeBody (f : Str) : MB := (.cons (.iff (.or (.not (.v (.isi [.tuple] (.var 1)))) (.or (.v (.cmp .ne (.lenv 1) (.con (.int 2)))) (.not (.v (.call f (.cons (.ixv 1 (.con (.int 0))) .nil)))))) (.cons (.ret (.con (.bl false))) .nil) .nil) (.cons (.iff (.or (.not (.v (.isi [.int] (.ixv 1 (.con (.int 1)))))) (.or (.v (.isi [.bool] (.ixv 1 (.con (.int 1))))) (.v (.cmp .lt (.ixv 1 (.con (.int 1))) (.con (.int 1)))))) (.cons (.ret (.con (.bl false))) .nil) .nil) .nil))
theorem knee_turn {C : CallF} {f : Str} {x : D} {s0 s1 s2 : Sl} (hx : sh 59 x = true) (hC : ∀ a w, x = .tup [a, w] → C f [] [a] = .ok (.v (.bl (frB a)), [])) :
    turn C (.nm 1) (kneeBody f) x [s0, s1, s2] = .ok (if kneeB x then .nx else .rt (.v (.bl false)), [s0, .fz x, s2]) := by
  have ht := sh_ty hx
  cases x with
  | tup ds =>
    match ds, hx, hC with
    | [], _, _ => simp [kneeB]
    | [a], _, _ => simp [kneeB]
    | a :: b :: c :: r, _, _ =>
      have : ¬ ((r.length : Int) + 1 + 1 + 1 = 2) := by omega
      simp [kneeB, this]
    | [a, w], hx, hC =>
      have hc := hC a w rfl
      have hw := sh_tup hx w (by simp)
      have tw := sh_ty hw
      cases ha : frB a with
      | false => simp [kneeB, hc, ha]
      | true =>
        cases w with
        | int i =>
          by_cases hi : 1 ≤ i
          · have : ¬ i < 1 := by omega
            simp [kneeB, posB, hc, ha, hi, this, tyOk]
          · have : i < 1 := by omega
            simp [kneeB, posB, hc, ha, hi, this, tyOk]
        | _ => first | (cases tw; done) | simp [kneeB, posB, hc, ha, isTy, tyOk]
  | _ => first | (cases ht; done) | simp [kneeB, isTy, tyOk]
theorem heads_eq {ks : List D} (h : ks.all kneeB = true) : ks.map kHead = (ks.map fun x => kq (kHead x)).map fr := by
  rw [List.map_map]
  apply List.map_congr_left
  intro x hx
  have := List.all_eq_true.mp h x hx
  show kHead x = fr (kq (kHead x))
  refine frB_kq ?_
  unfold kneeB at this
  split at this
  · rw [Bool.and_eq_true] at this; exact this.1
  · cases this
theorem dqs_fr : ∀ (a b : List Rat), dqs (a.map fr) (b.map fr) = decide (a = b)
  | [], [] => rfl
  | [], _ :: _ => rfl
  | _ :: _, [] => rfl
  | x :: a, y :: b => by
    show (dq (fr x) (fr y) && dqs (a.map fr) (b.map fr)) = _
    rw [dq_fr, dqs_fr a b]
    simp
theorem sh_frs (l : List Rat) : sh 60 (.lst (l.map fr)) = true := by
  show shs 59 (l.map fr) = true
  refine shs_all.mpr fun d hd => ?_
  obtain ⟨q, _, rfl⟩ := List.mem_map.mp hd
  rfl
theorem eq_frs (a b : List Rat) : cmp2 .eq (.lst (a.map fr)) (.lst (b.map fr)) = .ok (decide (a = b)) := by
  rw [cmp_eq (sh_frs a) (sh_frs b)]
  show Out.ok (dqs _ _) = _
  rw [dqs_fr]
theorem eq_nil (a : List Rat) : cmp2 .eq (.lst (a.map fr)) (.lst []) = .ok (decide (a = [])) := eq_frs a []
theorem ne_nil (a : List Rat) : cmp2 .ne (.lst (a.map fr)) (.lst []) = .ok (!decide (a = [])) := by
  rw [cmp_ne (sh_frs a) (by rfl)]
  show Out.ok (!dqs _ (([] : List Rat).map fr)) = _
  rw [dqs_fr]
theorem eq_zero {i : Int} {ks : List D} (h : sh 59 (.tup ks) = true) : cmp2 .eq (.tup [.int i, .tup ks]) (.tup [.int 0, .tup []]) = .ok (decide (i = 0) && ks.isEmpty) := by
  rw [cmp_eq (by show (true && (shs 58 ks && true)) = true; rw [show shs 58 ks = true from h]; rfl) (by rfl)]
  cases ks with
  | nil => simp [dq, dqs]; rfl
  | cons a r => simp [dq, dqs]
section
variable {T : Tab}
theorem heads_comp {C : CallF} {v s : D} {s2 : Sl} (ks : List D) (h : ks.all kneeB = true) {s1 : Sl} : ∃ e1, loopC (turnC C (.nm 1) .none (.ixv 1 (.con (.int 0))) [1]) ks [.fz v, s1, s2] [] = .ok ((ks.map fun x => kq (kHead x)).map fr, [.fz v, e1, s2]) := by
  obtain ⟨env, h1, s, rfl⟩ := loopC_map (t := turnC C (.nm 1) .none (.ixv 1 (.con (.int 0))) [1]) (f := fun x : D => x) (g := kHead) (I := fun env => ∃ s, env = [.fz v, s, s2]) ks [.fz v, s1, s2] [] ⟨_, rfl⟩ (by
    rintro x hx env ⟨s, rfl⟩
    have hk := List.all_eq_true.mp h x hx
    unfold kneeB at hk
    split at hk
    · rename_i f w
      exact ⟨[.fz v, .fz (.tup [f, w]), s2], by simp [kHead], ⟨_, rfl⟩⟩
    · cases hk)
  rw [List.map_id', List.nil_append, heads_eq h] at h1
  exact ⟨s, h1⟩
theorem hasp_ok (F : HasPers T) (k : Nat) {v : D} (hv : sh 59 v = true) (hp : PerSm v) : call T (k + 6) (Str.ofString "has_person") [] [v] = .ok (.v (.bl (perB v)), []) := by
  rw [call_of F.hasp]
  have ht := sh_ty hv
  cases v with
  | tup ds =>
    match ds, hv, hp with
    | [], _, _ => generalize call T (k + 5) = C; unfold run LibP.has_person; simp [MF.start, perB]
    | [a], _, _ => generalize call T (k + 5) = C; unfold run LibP.has_person; simp [MF.start, perB]
    | a :: b :: c :: r, _, _ =>
      generalize call T (k + 5) = C
      have : ¬ ((r.length : Int) + 1 + 1 + 1 = 2) := by omega
      unfold run LibP.has_person
      simp [MF.start, perB, this]
    | [s, b], hv, hp =>
      have hs := sh_tup hv s (by simp)
      have hb := sh_tup hv b (by simp)
      have ts := sh_ty hs
      have tb := sh_ty hb
      cases b with
      | tup ks =>
        by_cases hl : ks.length ≤ 30
        · have hl' : ¬ ((30 : Int) < (ks.length : Int)) := by omega
          cases s with
          | int i =>
            by_cases hi : 0 ≤ i
            · have hi' : ¬ i < 0 := by omega
              have hz := eq_zero (i := i) (ks := ks) hb
              cases hzz : (decide (i = 0) && ks.isEmpty) with
              | true =>
                rw [hzz] at hz
                generalize call T (k + 5) = C
                have e : perB (.tup [.int i, .tup ks]) = false := by
                  show (decide (ks.length ≤ 30) && decide (0 ≤ i) && ks.all kneeB && !(decide (i = 0) && ks.isEmpty) && _) = false
                  rw [hzz]; simp
                rw [e]
                unfold run LibP.has_person
                simp [MF.start, hl', hi', hz, tyOk]
              | false =>
                rw [hzz] at hz
                have lf := fun (x a w : D) (hx : x ∈ ks) (e : x = .tup [a, w]) => isf_ok F (k + 3) (v := a) (sh_tup (e ▸ sh_tup hb x hx) a (by simp)) (hp.frs _ _ _ _ _ rfl hx e)
                have turn_ok := fun (C : CallF) (x : D) (hx : x ∈ ks) (hC : ∀ a w, x = .tup [a, w] → C (Str.ofString "is_fraction") [] [a] = .ok (.v (.bl (frB a)), [])) s0 s1 s2 => knee_turn (C := C) (f := Str.ofString "is_fraction") (s0 := s0) (s1 := s1) (s2 := s2) (sh_tup hb x hx) hC
                obtain ⟨env, f1, t1, ht1, rfl⟩ := forL_all (b := turn (call T (k + 5)) (.nm 1) (kneeBody (Str.ofString "is_fraction"))) (p := kneeB) (r := .v (.bl false)) (I := fun env => ∃ s1, (s1 = .un ∨ ∃ d, s1 = .fz d) ∧ env = [.fz (.tup [.int i, .tup ks]), s1, .un]) (ds := ks) (env := [.fz (.tup [.int i, .tup ks]), .un, .un]) ⟨_, .inl rfl, rfl⟩ (by
                  rintro x hx env ⟨s1, _, rfl⟩
                  exact ⟨_, turn_ok _ x hx (fun a w e => lf x a w hx e) _ _ _, ⟨_, .inr ⟨_, rfl⟩, rfl⟩⟩)
                cases hall : ks.all kneeB with
                | false =>
                  rw [hall] at f1
                  generalize call T (k + 5) = C at f1
                  have e : perB (.tup [.int i, .tup ks]) = false := by
                    show (decide (ks.length ≤ 30) && decide (0 ≤ i) && ks.all kneeB && !(decide (i = 0) && ks.isEmpty) && _) = false
                    rw [hall]; simp
                  rw [e]
                  unfold run LibP.has_person
                  simp at f1
                  simp [MF.start, hl', hi', hz, tyOk, f1, -turn_app]
                | true =>
                  rw [hall] at f1
                  obtain ⟨N, n0, nB, nall⟩ := hp.all _ _ rfl hl hall
                  have io := in_order_ok F.toHasOrd (k + 2) (qs := ks.map fun x => kq (kHead x)) n0 nB (fun q hq => by
                    obtain ⟨x, hx, rfl⟩ := List.mem_map.mp hq; exact (nall x hx).1) (fun q hq => by
                    obtain ⟨x, hx, rfl⟩ := List.mem_map.mp hq; exact (nall x hx).2) (by simp; omega)
                  obtain ⟨e1, hc⟩ := heads_comp (C := call T (k + 5)) (v := .tup [.int i, .tup ks]) (s := .non) (s2 := .un) ks hall (s1 := t1)
                  have e : perB (.tup [.int i, .tup ks]) = decide (ordQ (ks.map fun x => kq (kHead x)) = ks.map fun x => kq (kHead x)) := by
                    show (decide (ks.length ≤ 30) && decide (0 ≤ i) && ks.all kneeB && !(decide (i = 0) && ks.isEmpty) && _) = _
                    rw [hall, hzz, decide_eq_true hl, decide_eq_true hi]; simp
                  rw [e]
                  generalize call T (k + 5) = C at f1 io hc
                  generalize hqs : (ks.map fun x => kq (kHead x)) = qs at io hc
                  have q1 := eq_nil qs
                  have q2 := eq_frs qs (ordQ qs)
                  simp at f1
                  have hno : noOwn [.fz (.tup [.int i, .tup ks]), t1, .un] [1] = true := by
                    rcases ht1 with rfl | ⟨d, rfl⟩ <;> rfl
                  unfold run LibP.has_person
                  by_cases hn : qs = []
                  · subst hn
                    have : ordQ [] = [] := by decide +kernel
                    simp at q1 hc
                    simp [MF.start, hl', hi', hz, tyOk, f1, hno, hc, this, q1, rd_s, -turn_app, -turnC_app]
                  · rw [decide_eq_false hn] at q1
                    have hd : decide (qs = ordQ qs) = decide (ordQ qs = qs) := by congr 1; exact propext ⟨Eq.symm, Eq.symm⟩
                    rw [hd] at q2
                    simp [MF.start, hl', hi', hz, tyOk, f1, hno, hc, q1, q2, io, rd_s, -turn_app, -turnC_app]
            · generalize call T (k + 5) = C
              have hi' : i < 0 := by omega
              have e : perB (.tup [.int i, .tup ks]) = false := by
                show (decide (ks.length ≤ 30) && decide (0 ≤ i) && ks.all kneeB && !(decide (i = 0) && ks.isEmpty) && _) = false
                rw [decide_eq_false hi]; simp
              rw [e]
              unfold run LibP.has_person
              simp [MF.start, hl', hi', tyOk]
          | _ => 
            generalize call T (k + 5) = C
            unfold run LibP.has_person
            first | (cases ts; done) | simp [MF.start, perB, isTy, tyOk, hl']
        · generalize call T (k + 5) = C
          have hl' : (30 : Int) < (ks.length : Int) := by omega
          have e : perB (.tup [s, .tup ks]) = false := by
            unfold perB
            split
            · rename_i heq; cases heq; rw [decide_eq_false hl]; simp
            · rfl
          rw [e]
          unfold run LibP.has_person
          simp [MF.start, hl']
      | _ =>
        generalize call T (k + 5) = C
        unfold run LibP.has_person
        first | (cases tb; done) | simp [MF.start, perB, isTy, tyOk]
  | _ =>
    generalize call T (k + 5) = C
    unfold run LibP.has_person
    first | (cases ht; done) | simp [MF.start, perB, isTy, tyOk]
end
end MP

end
section
set_option linter.all false
set_option maxRecDepth 100000
set_option maxHeartbeats 4000000
set_option exponentiation.threshold 10000
/-! What a person is to the law, of any value. -/
namespace MP
open PySem (Str)
section
variable {T : Tab}
theorem Sm_of_kq {ks : List D} {N : Nat} (nB : N < Big) (n0 : 0 < N) (h : ∀ x ∈ ks, (kq (kHead x)).den ∣ N ∧ (kq (kHead x)).num.natAbs < Big) : ∀ q ∈ ks.map (fun x => kq (kHead x)), Sm q := by
  intro q hq
  obtain ⟨x, hx, rfl⟩ := List.mem_map.mp hq
  exact ⟨(h x hx).2, Nat.lt_of_le_of_lt (Nat.le_of_dvd n0 (h x hx).1) nB⟩
theorem lisp_ok (F : HasLPers T) (k : Nat) {v : D} (hv : sh 59 v = true) (hp : PerSm v) : call T (k + 6) (Str.ofString "_law_is_person") [] [v] = .ok (.v (.bl (perB v)), []) := by
  rw [call_of F.isp]
  have ht := sh_ty hv
  cases v with
  | tup ds =>
    match ds, hv, hp with
    | [], _, _ => generalize call T (k + 5) = C; unfold run LibP._law_is_person; simp [MF.start, perB]
    | [a], _, _ => generalize call T (k + 5) = C; unfold run LibP._law_is_person; simp [MF.start, perB]
    | a :: b :: c :: r, _, _ =>
      generalize call T (k + 5) = C
      have : ¬ ((r.length : Int) + 1 + 1 + 1 = 2) := by omega
      unfold run LibP._law_is_person
      simp [MF.start, perB, this]
    | [s, b], hv, hp =>
      have hs := sh_tup hv s (by simp)
      have hb := sh_tup hv b (by simp)
      have ts := sh_ty hs
      have tb := sh_ty hb
      cases b with
      | tup ks =>
        by_cases hl : ks.length ≤ 30
        · have hl' : ¬ ((30 : Int) < (ks.length : Int)) := by omega
          have lf := fun (x a w : D) (hx : x ∈ ks) (e : x = .tup [a, w]) => lisf_ok F (k + 3) (v := a) (sh_tup (e ▸ sh_tup hb x hx) a (by simp)) (hp.frs _ _ _ _ _ rfl hx e)
          have turn_ok := fun (C : CallF) (x : D) (hx : x ∈ ks) (hC : ∀ a w, x = .tup [a, w] → C (Str.ofString "_law_is_fraction") [] [a] = .ok (.v (.bl (frB a)), [])) s0 s1 s2 => knee_turn (C := C) (f := Str.ofString "_law_is_fraction") (s0 := s0) (s1 := s1) (s2 := s2) (sh_tup hb x hx) hC
          obtain ⟨env, f1, t1, ht1, rfl⟩ := forL_all (b := turn (call T (k + 5)) (.nm 1) (kneeBody (Str.ofString "_law_is_fraction"))) (p := kneeB) (r := .v (.bl false)) (I := fun env => ∃ s1, (s1 = .un ∨ ∃ d, s1 = .fz d) ∧ env = [.fz (.tup [s, .tup ks]), s1, .un]) (ds := ks) (env := [.fz (.tup [s, .tup ks]), .un, .un]) ⟨_, .inl rfl, rfl⟩ (by
            rintro x hx env ⟨s1, _, rfl⟩
            exact ⟨_, turn_ok _ x hx (fun a w e => lf x a w hx e) _ _ _, ⟨_, .inr ⟨_, rfl⟩, rfl⟩⟩)
          cases hall : ks.all kneeB with
          | false =>
            rw [hall] at f1
            generalize call T (k + 5) = C at f1
            have e : perB (.tup [s, .tup ks]) = false := by
              unfold perB
              split
              · rename_i heq; cases heq; rw [hall]; simp
              · rfl
            rw [e]
            unfold run LibP._law_is_person
            simp at f1
            simp [MF.start, hl', f1, -turn_app]
          | true =>
            rw [hall] at f1
            obtain ⟨N, n0, nB, nall⟩ := hp.all _ _ rfl hl hall
            have io := ordered_ok0 F.less F.ordered (k + 3) (qs := ks.map fun x => kq (kHead x)) (Sm_of_kq nB n0 nall) (by simp; omega)
            obtain ⟨e1, hc⟩ := heads_comp (C := call T (k + 5)) (v := .tup [s, .tup ks]) (s := .non) (s2 := .un) ks hall (s1 := t1)
            rw [ordL_eq] at io
            generalize call T (k + 5) = C at f1 io hc
            have hno : noOwn [.fz (.tup [s, .tup ks]), t1, .un] [1] = true := by
              rcases ht1 with rfl | ⟨d, rfl⟩ <;> rfl
            simp at f1
            cases s with
            | int i =>
              by_cases hi : 0 ≤ i
              · have hi' : ¬ i < 0 := by omega
                have e : perB (.tup [.int i, .tup ks]) = (!(decide (i = 0) && ks.isEmpty) && decide (ordQ (ks.map fun x => kq (kHead x)) = ks.map fun x => kq (kHead x))) := by
                  show (decide (ks.length ≤ 30) && decide (0 ≤ i) && ks.all kneeB && !(decide (i = 0) && ks.isEmpty) && _) = _
                  rw [hall, decide_eq_true hl, decide_eq_true hi]; simp
                rw [e]
                have hqn : ks.isEmpty = decide ((ks.map fun x => kq (kHead x)) = []) := by cases ks <;> simp
                rw [hqn]
                generalize hqs : (ks.map fun x => kq (kHead x)) = qs at io hc
                have q1 := ne_nil qs
                have q2 := eq_frs qs (ordQ qs)
                have hd : decide (qs = ordQ qs) = decide (ordQ qs = qs) := by congr 1; exact propext ⟨Eq.symm, Eq.symm⟩
                rw [hd] at q2
                unfold run LibP._law_is_person
                by_cases ho : ordQ qs = qs
                · rw [decide_eq_true ho] at q2 ⊢
                  by_cases h0 : i = 0
                  · subst h0
                    simp [MF.start, hl', tyOk, f1, hno, hc, q1, q2, io, rd_s, -turn_app, -turnC_app]
                  · have hi2 : 0 < i := by omega
                    simp [MF.start, hl', hi', hi2, h0, tyOk, f1, hno, hc, q1, q2, io, rd_s, -turn_app, -turnC_app]
                · rw [decide_eq_false ho] at q2 ⊢
                  simp [MF.start, hl', hi', tyOk, f1, hno, hc, q1, q2, io, rd_s, -turn_app, -turnC_app]
              · have hi' : i < 0 := by omega
                have e : perB (.tup [.int i, .tup ks]) = false := by
                  show (decide (ks.length ≤ 30) && decide (0 ≤ i) && ks.all kneeB && !(decide (i = 0) && ks.isEmpty) && _) = false
                  rw [decide_eq_false hi]; simp
                rw [e]
                unfold run LibP._law_is_person
                simp [MF.start, hl', hi', tyOk, f1, hno, hc, rd_s, -turn_app, -turnC_app]
            | _ =>
              unfold run LibP._law_is_person
              first | (cases ts; done) | simp [MF.start, perB, isTy, tyOk, hl', f1, hno, hc, rd_s, -turn_app, -turnC_app]
        · generalize call T (k + 5) = C
          have hl' : (30 : Int) < (ks.length : Int) := by omega
          have e : perB (.tup [s, .tup ks]) = false := by
            unfold perB
            split
            · rename_i heq; cases heq; rw [decide_eq_false hl]; simp
            · rfl
          rw [e]
          unfold run LibP._law_is_person
          simp [MF.start, hl']
      | _ =>
        generalize call T (k + 5) = C
        unfold run LibP._law_is_person
        first | (cases tb; done) | simp [MF.start, perB, isTy, tyOk]
  | _ =>
    generalize call T (k + 5) = C
    unfold run LibP._law_is_person
    first | (cases ht; done) | simp [MF.start, perB, isTy, tyOk]
end
end MP

end
section
set_option linter.all false
set_option maxRecDepth 100000
set_option maxHeartbeats 4000000
set_option exponentiation.threshold 10000
/-! Small values; odd ones. -/
namespace MP
open PySem (Str)
mutual
/-- a value at most so deep, its numbers, texts and tuples not greater -/
def vd (B S L : Nat) : Nat → D → Bool
  | _, .non | _, .bl _ => true
  | _, .int i => decide (i.natAbs ≤ B)
  | _, .str x => strOk x && decide (x.cps.size ≤ S)
  | 0, .tup _ | 0, .lst _ => false
  | n + 1, .tup ds => decide (ds.length ≤ L) && vds B S L n ds
  | n + 1, .lst ds => decide (ds.length ≤ L) && vds B S L n ds
  | _, .frz _ | _, .fn _ | _, .dic _ => false
def vds (B S L : Nat) : Nat → List D → Bool
  | _, [] => true
  | n, d :: ds => vd B S L n d && vds B S L n ds
end
theorem vds_all {B S L n : Nat} : ∀ {ds : List D}, vds B S L n ds = true ↔ ∀ d ∈ ds, vd B S L n d = true
  | [] => by simp [vds]
  | d :: r => by simp [vds, vds_all (ds := r)]
theorem vd_int {B S L n : Nat} {i : Int} : vd B S L n (.int i) = decide (i.natAbs ≤ B) := by cases n <;> rfl
theorem vd_str {B S L n : Nat} {x : Str} : vd B S L n (.str x) = (strOk x && decide (x.cps.size ≤ S)) := by cases n <;> rfl
theorem vd_non {B S L n : Nat} : vd B S L n .non = true := by cases n <;> rfl
theorem vd_bl {B S L n : Nat} {b : Bool} : vd B S L n (.bl b) = true := by cases n <;> rfl
mutual
theorem vd_mono {B S L B' S' L' : Nat} (hB : B ≤ B') (hS : S ≤ S') (hL : L ≤ L') : ∀ {n m : Nat} {d : D}, n ≤ m → vd B S L n d = true → vd B' S' L' m d = true
  | n, m, .non, _, _ => vd_non
  | n, m, .bl _, _, _ => vd_bl
  | n, m, .int i, _, h => by rw [vd_int] at h ⊢; simp at h ⊢; omega
  | n, m, .str x, _, h => by rw [vd_str] at h ⊢; simp at h ⊢; exact ⟨h.1, by omega⟩
  | 0, m, .tup ds, _, h => by cases h
  | 0, m, .lst ds, _, h => by cases h
  | n + 1, 0, .tup ds, hn, _ => by omega
  | n + 1, 0, .lst ds, hn, _ => by omega
  | n + 1, m + 1, .tup ds, hn, h => by
    have h : (decide (ds.length ≤ L) && vds B S L n ds) = true := h
    show (decide (ds.length ≤ L') && vds B' S' L' m ds) = true
    rw [Bool.and_eq_true, decide_eq_true_eq] at h ⊢
    exact ⟨by omega, vds_mono hB hS hL (by omega) h.2⟩
  | n + 1, m + 1, .lst ds, hn, h => by
    have h : (decide (ds.length ≤ L) && vds B S L n ds) = true := h
    show (decide (ds.length ≤ L') && vds B' S' L' m ds) = true
    rw [Bool.and_eq_true, decide_eq_true_eq] at h ⊢
    exact ⟨by omega, vds_mono hB hS hL (by omega) h.2⟩
  | n, m, .frz _, _, h => by cases n <;> cases h
  | n, m, .fn _, _, h => by cases n <;> cases h
  | n, m, .dic _, _, h => by cases n <;> cases h
theorem vds_mono {B S L B' S' L' : Nat} (hB : B ≤ B') (hS : S ≤ S') (hL : L ≤ L') : ∀ {n m : Nat} {ds : List D}, n ≤ m → vds B S L n ds = true → vds B' S' L' m ds = true
  | n, m, [], _, _ => by simp [vds]
  | n, m, d :: r, hn, h => by
    rw [vds, Bool.and_eq_true] at h ⊢
    exact ⟨vd_mono hB hS hL hn h.1, vds_mono hB hS hL hn h.2⟩
end
mutual
theorem vd_sh {B S L : Nat} : ∀ {n : Nat} {d : D}, vd B S L n d = true → sh n d = true
  | n, .non, _ => by cases n <;> rfl
  | n, .bl _, _ => by cases n <;> rfl
  | n, .int i, _ => sh_int
  | n, .str x, h => by rw [vd_str] at h; rw [sh_str]; simp at h; exact h.1
  | 0, .tup ds, h => by cases h
  | 0, .lst ds, h => by cases h
  | n + 1, .tup ds, h => by
    have h : (decide (ds.length ≤ L) && vds B S L n ds) = true := h
    rw [Bool.and_eq_true] at h
    exact vds_sh h.2
  | n + 1, .lst ds, h => by
    have h : (decide (ds.length ≤ L) && vds B S L n ds) = true := h
    rw [Bool.and_eq_true] at h
    exact vds_sh h.2
  | n, .frz _, h => by cases n <;> cases h
  | n, .fn _, h => by cases n <;> cases h
  | n, .dic _, h => by cases n <;> cases h
theorem vds_sh {B S L : Nat} : ∀ {n : Nat} {ds : List D}, vds B S L n ds = true → shs n ds = true
  | n, [], _ => by simp [shs]
  | n, d :: r, h => by
    rw [vds, Bool.and_eq_true] at h
    rw [shs, vd_sh h.1, vds_sh h.2]; rfl
end
theorem vd_tup {B S L n : Nat} {ds : List D} (h : vd B S L n (.tup ds) = true) : ∃ m, n = m + 1 ∧ ds.length ≤ L ∧ ∀ d ∈ ds, vd B S L m d = true := by
  cases n with
  | zero => cases h
  | succ m =>
    have h : (decide (ds.length ≤ L) && vds B S L m ds) = true := h
    rw [Bool.and_eq_true, decide_eq_true_eq] at h
    exact ⟨m, rfl, h.1, vds_all.mp h.2⟩
theorem vd_mk {B S L n : Nat} {ds : List D} (hl : ds.length ≤ L) (h : ∀ d ∈ ds, vd B S L n d = true) : vd B S L (n + 1) (.tup ds) = true := by
  show (decide (ds.length ≤ L) && vds B S L n ds) = true
  rw [decide_eq_true hl, vds_all.mpr h]; rfl
theorem vd_mkl {B S L n : Nat} {ds : List D} (hl : ds.length ≤ L) (h : ∀ d ∈ ds, vd B S L n d = true) : vd B S L (n + 1) (.lst ds) = true := by
  show (decide (ds.length ≤ L) && vds B S L n ds) = true
  rw [decide_eq_true hl, vds_all.mpr h]; rfl
theorem loopC_all {t : D → En → Out (Option D × En)} {P : D → Prop} {I : En → Prop} : ∀ (ds : List D) (env : En) (acc : List D), I env → (∀ d ∈ ds, ∀ env, I env → ∃ x env', t d env = .ok (some x, env') ∧ P x ∧ I env') →
    ∃ acc' env', loopC t ds env acc = .ok (acc', env') ∧ I env' ∧ acc'.length = acc.length + ds.length ∧ ∀ a ∈ acc', a ∈ acc ∨ P a
  | [], env, acc, h, _ => ⟨acc, env, rfl, h, by simp, fun a ha => .inl ha⟩
  | d :: ds, env, acc, h, ht => by
    obtain ⟨x, e1, h1, h2, h3⟩ := ht d (by simp) env h
    obtain ⟨acc', e2, g1, g2, g3, g4⟩ := loopC_all ds e1 (acc ++ [x]) h3 fun y hy => ht y (by simp [hy])
    refine ⟨acc', e2, ?_, g2, by rw [g3]; simp; omega, fun a ha => ?_⟩
    · rw [loopC_cons, h1]; exact g1
    · rcases g4 a ha with h | h
      · rcases List.mem_append.mp h with h | h
        · exact .inl h
        · have : a = x := by simpa using h
          exact .inr (this ▸ h2)
      · exact .inr h
structure HasOdd (T : Tab) : Prop extends HasUnder T where
  odd : T (Str.ofString "_law_odd") = some LibP._law_odd
abbrev B0 : Nat := 10 ^ 31
def oddL : List D := [.non, .bl true, .bl false, .int 0, .int 1, .int 7, .int (-1), .int (10 ^ 31), .str (Str.ofString ""), .str (Str.ofString "sure"), .str (Str.ofString "draw"), .tup [], .lst [], .tup [.int 0, .int 1], .tup [.int 1, .tup []], .tup [.int 0, .tup []]] ++
  [.tup [.str (Str.ofString "sure"), .int 1], .tup [.str (Str.ofString "sure"), .int 1001], .tup [.int 0, .tup [.tup [.tup [.int 1, .int 2], .int 1]]], .tup [.tup [.int 1, .int 2], .tup [.int 1, .int 2]], .tup [.str (Str.ofString "cap"), .int 3, .tup [.str (Str.ofString "sure"), .int 2]]]
theorem oddL_vd : ∀ d ∈ oddL, vd B0 40 16 4 d = true := by
  have : vds B0 40 16 4 oddL = true := by decide +kernel
  exact vds_all.mp this
theorem pow31 : bin2 .pow (.int 10) (.int 31) = .ok (.v (.int (10 ^ 31))) := rfl
theorem odd_ok {T : Tab} (F : HasOdd T) (k : Nat) : ∀ (n : Nat) {xs : List D}, VatOk xs → ∃ (r : R) (ys : List D), VatOk ys ∧ vd B0 40 16 (4 + n) r.d = true ∧ call T (k + 3 + n) (Str.ofString "_law_odd") xs [.int n] = .ok (r, ys)
  | n, xs, hx => by
    rw [show k + 3 + n = (k + 2 + n) + 1 from by omega, call_of F.odd]
    have hu := fun (xs : List D) (m : Int) (hx : VatOk xs) (hm : 0 < m) (hm2 : m < 1000000) => under_ok F.toHasUnder (k + 1 + n) hx hm hm2
    have hs := fun (xs ds : List D) (hx : VatOk xs) a b => some_lst F.toHasUnder (k + n) (xs := xs) (ds := ds) hx a b
    have ih : 0 < n → ∀ (xs : List D), VatOk xs → ∃ (r : R) (ys : List D), VatOk ys ∧ vd B0 40 16 (3 + n) r.d = true ∧ call T (k + 2 + n) (Str.ofString "_law_odd") xs [.int (n - 1)] = .ok (r, ys) := by
      intro hn xs hx
      obtain ⟨m, rfl⟩ : ∃ m, n = m + 1 := ⟨n - 1, by omega⟩
      have := odd_ok F k m hx
      rw [show k + 2 + (m + 1) = k + 3 + m from by omega, show 3 + (m + 1) = 4 + m from by omega, show ((m + 1 : Nat) : Int) - 1 = (m : Int) from by omega]
      exact this
    rw [show k + 1 + n + 1 = k + 2 + n from by omega] at hu
    rw [show k + n + 2 = k + 2 + n from by omega] at hs
    generalize call T (k + 2 + n) = C at hu hs ih
    have pick : ∀ ys : List D, VatOk ys → ∃ d zs, VatOk zs ∧ d ∈ oddL ∧ C (Str.ofString "_law_some") ys [.lst oddL] = .ok (.v d, zs) := fun ys hy => hs ys oddL hy (by decide) (by decide)
    have addo : bin2 .add (.lst [.non, .bl true, .bl false, .int 0, .int 1, .int 7, .int (-1), .int (10 ^ 31), .str (Str.ofString ""), .str (Str.ofString "sure"), .str (Str.ofString "draw"), .tup [], .lst [], .tup [.int 0, .int 1], .tup [.int 1, .tup []], .tup [.int 0, .tup []]])
        (.lst [.tup [.str (Str.ofString "sure"), .int 1], .tup [.str (Str.ofString "sure"), .int 1001], .tup [.int 0, .tup [.tup [.tup [.int 1, .int 2], .int 1]]], .tup [.tup [.int 1, .int 2], .tup [.int 1, .int 2]], .tup [.str (Str.ofString "cap"), .int 3, .tup [.str (Str.ofString "sure"), .int 2]]]) = .ok (.o oddL) := rfl
    by_cases hn : n = 0
    · subst hn
      obtain ⟨d, zs, g1, g2, g3⟩ := pick xs hx
      refine ⟨.v d, zs, g1, oddL_vd d g2, ?_⟩
      unfold run LibP._law_odd
      simp only [show ((0 : Nat) : Int) = 0 from rfl]
      have pw : ((10 : Int) ^ 31) = 10000000000000000000000000000000 := by decide
      rw [pw] at addo
      have pw2 := pow31
      rw [pw] at pw2
      simp [MF.start, pw2, addo, g3]
    · have hn' : ¬ ((n : Int) = 0) := by omega
      have hnb : ((n : Int) == 0) = false := by rw [beq_eq_false_iff_ne]; exact hn'
      have pw : ((10 : Int) ^ 31) = 10000000000000000000000000000000 := by decide
      have pw2 := pow31
      rw [pw] at addo pw2
      obtain ⟨t, ys, u1, u2, u3, u4⟩ := hu xs 9 hx (by omega) (by omega)
      by_cases t6 : t < 6
      · obtain ⟨d, zs, g1, g2, g3⟩ := pick ys u1
        refine ⟨.v d, zs, g1, vd_mono (Nat.le_refl _) (Nat.le_refl _) (Nat.le_refl _) (by omega) (oddL_vd d g2), ?_⟩
        unfold run LibP._law_odd
        simp [MF.start, pw2, addo, g3, hnb, u4, t6]
      · obtain ⟨m, zs, v1, v2, v3, v4⟩ := hu ys 4 u1 (by omega) (by omega)
        obtain ⟨acc, env, e1, ⟨ws, s4, w1, w2, rfl⟩, e3, e4⟩ := loopC_all (t := turnC C (.nm 4) .none (.callo (Str.ofString "_law_odd") 0 (.cons (.bin .sub (.var 1) (.con (.int 1))) .nil)) [4]) (P := fun d => vd B0 40 16 (3 + n) d = true)
          (I := fun env => ∃ ws s4, VatOk ws ∧ (s4 = .un ∨ ∃ d, s4 = .fz d) ∧ env = [.ow ws, .fz (.int n), .fz (.lst oddL), .un, s4]) (rangeD 0 m.toNat) [.ow zs, .fz (.int n), .fz (.lst oddL), .un, .un] [] ⟨zs, .un, v1, .inl rfl, rfl⟩ (by
            rintro d hd env ⟨ws, s4, w1, w2, rfl⟩
            obtain ⟨r, vs, r1, r2, r3⟩ := ih (by omega) ws w1
            have b1 : bin2 .sub (.int n) (.int 1) = .ok (.v (.int ((n : Int) - 1))) := rfl
            exact ⟨r.d, [.ow vs, .fz (.int n), .fz (.lst oddL), .un, .fz d], by simp [b1, r3, rd_s], r2, vs, _, r1, .inr ⟨_, rfl⟩, rfl⟩)
        rw [length_rangeD] at e3
        have hl : acc.length ≤ 16 := by simp at e3; omega
        have hall : ∀ a ∈ acc, vd B0 40 16 (3 + n) a = true := fun a ha => by
          rcases e4 a ha with h | h
          · cases h
          · exact h
        obtain ⟨z, vs, x1, x2, x3, x4⟩ := hu ws 3 w1 (by omega) (by omega)
        have hr := rOk_small (i := m) v2 (by omega)
        have no : ∀ w, noOwn [.ow w, .fz (.int n), .fz (.lst oddL), .un, .un] [4] = true := fun w => rfl
        by_cases hz : z = 0
        · refine ⟨.v (.lst acc), vs, x1, ?_, ?_⟩
          · rw [show 4 + n = (3 + n) + 1 from by omega]; exact vd_mkl hl hall
          · subst hz
            unfold run LibP._law_odd
            simp [MF.start, pw2, addo, hnb, u4, t6, v4, hr, no, e1, x4, rd_s, -turnC_app]
        · have hzb : (z == 0) = false := by rw [beq_eq_false_iff_ne]; exact hz
          refine ⟨.v (.tup acc), vs, x1, ?_, ?_⟩
          · rw [show 4 + n = (3 + n) + 1 from by omega]; exact vd_mk hl hall
          · unfold run LibP._law_odd
            simp [MF.start, pw2, addo, hnb, u4, t6, v4, hr, no, e1, x4, hz, hzb, rd_s, -turnC_app]
end MP

end
section
set_option linter.all false
set_option maxRecDepth 100000
set_option maxHeartbeats 4000000
set_option exponentiation.threshold 10000
/-! Values near a value. -/
namespace MP
open PySem (Str)
theorem ofInt_ok (i : Int) : strOk (ofInt i) = true := by
  unfold strOk
  rw [← Array.all_toList, List.all_eq_true]
  intro c hc
  refine decide_eq_true ?_
  by_cases h : c ≠ 45 ∧ (c < 48 ∨ 57 < c)
  · exact absurd hc (PyProof.Rows.int_text_free' c h i)
  · omega
theorem log_small {i : Int} (h : i.natAbs ≤ 2 ^ 200) : i.natAbs.log2 < 1920 := by
  have h2 : i.natAbs < 2 ^ 1920 := Nat.lt_of_le_of_lt h (Nat.pow_lt_pow_right (by decide) (by decide))
  exact log_of h2 (by decide)
theorem bi_str_int {i : Int} (h : i.natAbs ≤ 2 ^ 200) : bi1 .str [.int i] = .ok (.v (.str (ofInt i))) := by
  show (if i.natAbs.log2 < 1920 then _ else _) = _
  rw [if_pos (log_small h)]
theorem ofInt_len {i : Int} (h : i.natAbs ≤ 2 ^ 200) : (ofInt i).cps.size ≤ 1921 := PyProof.Rows.int_text_len_1921 (log_small h)
theorem app_ok {x y : Str} (hx : strOk x = true) (hy : strOk y = true) : strOk (x ++ y) = true := by
  unfold strOk at *
  rw [← Array.all_toList, List.all_eq_true] at *
  intro c hc
  have : c ∈ x.cps.toList ++ y.cps.toList := by
    have e : (x ++ y).cps.toList = x.cps.toList ++ y.cps.toList := by
      show (x.cps ++ y.cps).toList = _
      simp
    rw [e] at hc; exact hc
  rcases List.mem_append.mp this with h | h
  · exact hx c h
  · exact hy c h
theorem app_len (x y : Str) : (x ++ y).cps.size = x.cps.size + y.cps.size := by
  show (x.cps ++ y.cps).size = _
  simp
/-- what stands near a value -/
def nearL : D → List D
  | .str x => [.str (Str.ofString "sure"), .str (Str.ofString "draw"), .str (Str.ofString "cap"), .str (Str.ofString "floor"), .str (Str.ofString "more"), .str (Str.ofString "share"), .str (Str.ofString "insured"), .str (x ++ Str.ofString "s")]
  | .int i => [.int (i + 1), .int (i - 1), .bl (!(i != 0)), .str (ofInt i), .int (i + 13), .int (2 * i)]
  | .bl b => [.int (b2 b + 1), .int (b2 b - 1), .bl (!b), .str (if b then Str.ofString "True" else Str.ofString "False"), .int (b2 b + 13), .int (2 * b2 b)]
  | _ => []
theorem nearL_vd {B S L n : Nat} {v : D} (hv : vd B S L n v = true) (hB : B0 ≤ B) (hB2 : B ≤ 2 ^ 200) (hS : 2000 ≤ S) : ∀ d ∈ nearL v, vd (2 * B + 13) (S + 1) (L + 1) 0 d = true := by
  intro d hd
  cases v with
  | str x =>
    rw [vd_str, Bool.and_eq_true, decide_eq_true_eq] at hv
    simp only [nearL, List.mem_cons, List.not_mem_nil, or_false] at hd
    have hw : ∀ w : Str, (strOk w && decide (w.cps.size ≤ 10)) = true → vd (2 * B + 13) (S + 1) (L + 1) 0 (.str w) = true := fun w h => by
      rw [Bool.and_eq_true, decide_eq_true_eq] at h
      rw [vd_str, Bool.and_eq_true, decide_eq_true_eq]
      exact ⟨h.1, by omega⟩
    rcases hd with rfl | rfl | rfl | rfl | rfl | rfl | rfl | rfl
    · exact hw _ (by decide +kernel)
    · exact hw _ (by decide +kernel)
    · exact hw _ (by decide +kernel)
    · exact hw _ (by decide +kernel)
    · exact hw _ (by decide +kernel)
    · exact hw _ (by decide +kernel)
    · exact hw _ (by decide +kernel)
    · rw [vd_str, Bool.and_eq_true, decide_eq_true_eq, app_len]
      have : (Str.ofString "s").cps.size = 1 := by decide +kernel
      exact ⟨app_ok hv.1 (by decide +kernel), by omega⟩
  | int i =>
    rw [vd_int, decide_eq_true_eq] at hv
    simp only [nearL, List.mem_cons, List.not_mem_nil, or_false] at hd
    rcases hd with rfl | rfl | rfl | rfl | rfl | rfl
    · rw [vd_int]; simp; omega
    · rw [vd_int]; simp; omega
    · exact vd_bl
    · rw [vd_str, Bool.and_eq_true, decide_eq_true_eq]
      have := ofInt_len (i := i) (Nat.le_trans hv hB2)
      exact ⟨ofInt_ok i, by omega⟩
    · rw [vd_int]; simp; omega
    · rw [vd_int]; simp; omega
  | bl b =>
    simp only [nearL, List.mem_cons, List.not_mem_nil, or_false] at hd
    have hB1 : 1 ≤ B := Nat.le_trans (by decide) hB
    have hbb : b2 b = 0 ∨ b2 b = 1 := by cases b <;> simp [b2]
    rcases hd with rfl | rfl | rfl | rfl | rfl | rfl
    · rw [vd_int]; simp; omega
    · rw [vd_int]; simp; omega
    · exact vd_bl
    · rw [vd_str, Bool.and_eq_true, decide_eq_true_eq]
      cases b
      · exact ⟨by decide +kernel, by have : (Str.ofString "False").cps.size = 5 := by decide +kernel
                                     simp; omega⟩
      · exact ⟨by decide +kernel, by have : (Str.ofString "True").cps.size = 4 := by decide +kernel
                                     simp; omega⟩
    · rw [vd_int]; simp; omega
    · rw [vd_int]; simp; omega
  | _ => simp [nearL] at hd
theorem addl (a b : D) (l : List D) (h : l.length ≤ 100) : bin2 .add (.lst [a, b]) (.lst l) = .ok (.o ([a, b] ++ l)) := by
  show (if _ then _ else _) = _
  rw [if_pos (by simp; unfold line; omega)]
abbrev nearBody : MB := (.cons (.asg 2 false (.lst (.cons (.callo (Str.ofString "_law_odd") 0 (.cons (.con (.int 1)) .nil)) (.cons (.callo (Str.ofString "_law_odd") 0 (.cons (.con (.int 1)) .nil)) .nil)))) (.cons (.iff (.v (.isi [.str] (.var 1))) (.cons (.asg 2 false (.bin .add (.var 2) (.lst (.cons (.con (.str (Str.ofString "sure"))) (.cons (.con (.str (Str.ofString "draw"))) (.cons (.con (.str (Str.ofString "cap"))) (.cons (.con (.str (Str.ofString "floor"))) (.cons (.con (.str (Str.ofString "more"))) (.cons (.con (.str (Str.ofString "share"))) (.cons (.con (.str (Str.ofString "insured"))) (.cons (.bin .add (.var 1) (.con (.str (Str.ofString "s")))) .nil))))))))))) .nil) (.cons (.iff (.v (.isi [.int] (.var 1))) (.cons (.asg 2 false (.bin .add (.var 2) (.lst (.cons (.bin .add (.var 1) (.con (.int 1))) (.cons (.bin .sub (.var 1) (.con (.int 1))) (.cons (.not (.var 1)) (.cons (.bi .str (.cons (.var 1) .nil)) (.cons (.bin .add (.var 1) (.con (.int 13))) (.cons (.bin .mul (.con (.int 2)) (.var 1)) .nil))))))))) .nil) .nil) .nil)) (.cons (.ret (.callo (Str.ofString "_law_some") 0 (.cons (.var 2) .nil))) .nil)))
theorem near_ok {C : CallF} {B S L n : Nat} {v : D} {xs : List D} (hv : vd B S L n v = true) (hB : B0 ≤ B) (hB2 : B ≤ 2 ^ 200) (hS : 2000 ≤ S) (hS2 : S ≤ 3000) (hL : 16 ≤ L) (hx : VatOk xs)
    (ho : ∀ xs, VatOk xs → ∃ (r : R) (ys : List D), VatOk ys ∧ vd B0 40 16 5 r.d = true ∧ C (Str.ofString "_law_odd") xs [.int 1] = .ok (r, ys))
    (hp : ∀ xs ds : List D, VatOk xs → 0 < ds.length → ds.length < 1000000 → ∃ (d : D) (ys : List D), VatOk ys ∧ d ∈ ds ∧ C (Str.ofString "_law_some") xs [.lst ds] = .ok (.v d, ys)) :
    ∃ d ys s2, VatOk ys ∧ vd (2 * B + 13) (S + 1) (L + 1) (n + 5) d = true ∧ exs C nearBody [.ow xs, .fz v, .un, .un, .un] = .ok (.rt (.v d), [.ow ys, .fz v, s2, .un, .un]) := by
  obtain ⟨r1, ys, a1, a2, a3⟩ := ho xs hx
  obtain ⟨r2, zs, b1, b2', b3⟩ := ho ys a1
  obtain ⟨d, ws, c1, c2, c3⟩ := hp zs ([r1.d, r2.d] ++ nearL v) b1 (by simp) (by cases v <;> simp [nearL])
  have hd : vd (2 * B + 13) (S + 1) (L + 1) (n + 5) d = true := by
    rcases List.mem_append.mp c2 with h | h
    · have h : d = r1.d ∨ d = r2.d := by simpa using h
      rcases h with rfl | rfl
      · exact vd_mono (by omega) (by omega) (by omega) (by omega) a2
      · exact vd_mono (by omega) (by omega) (by omega) (by omega) b2'
    · exact vd_mono (Nat.le_refl _) (Nat.le_refl _) (Nat.le_refl _) (Nat.zero_le _) (nearL_vd hv hB hB2 hS d h)
  refine ⟨d, ws, .fz (.lst ([r1.d, r2.d] ++ nearL v)), c1, hd, ?_⟩
  have hto : tyOk v = true := sh_ty (vd_sh hv)
  cases v with
  | str x =>
    rw [vd_str, Bool.and_eq_true, decide_eq_true_eq] at hv
    have s1 : bin2 .add (.str x) (.str (Str.ofString "s")) = .ok (.v (.str (x ++ Str.ofString "s"))) := by
      show (if _ then _ else _) = _
      have : (Str.ofString "s").cps.size = 1 := by decide +kernel
      rw [if_pos (by unfold line; omega)]
    have a0 := addl r1.d r2.d (nearL (.str x)) (by simp [nearL])
    simp only [nearL, List.cons_append, List.nil_append] at a0 c3
    simp [a3, b3, s1, nearL, rd_s, a0, c3]
  | int i =>
    rw [vd_int, decide_eq_true_eq] at hv
    have s1 := bi_str_int (i := i) (Nat.le_trans hv hB2)
    have m1 : bin2 .add (.int i) (.int 1) = .ok (.v (.int (i + 1))) := rfl
    have m2 : bin2 .sub (.int i) (.int 1) = .ok (.v (.int (i - 1))) := rfl
    have m3 : bin2 .add (.int i) (.int 13) = .ok (.v (.int (i + 13))) := rfl
    have m4 : bin2 .mul (.int 2) (.int i) = .ok (.v (.int (2 * i))) := mul_s (by omega) (by omega)
    have t1 : truth (.int i) = .ok (i != 0) := rfl
    have a0 := addl r1.d r2.d (nearL (.int i)) (by simp [nearL])
    have i1 : isTy (.int i) .str = false := rfl
    have i3 : tyOk (.int i) = true := rfl
    simp only [nearL, List.cons_append, List.nil_append] at a0 c3
    simp [a3, b3, s1, m1, m2, m3, m4, t1, i1, i3, nearL, rd_s, a0, c3, -Bool.not_eq_true, -bne_iff_ne]
  | bl b =>
    have s1 : bi1 .str [.bl b] = .ok (.v (.str (if b then Str.ofString "True" else Str.ofString "False"))) := rfl
    have m1 : bin2 .add (.bl b) (.int 1) = .ok (.v (.int (b2 b + 1))) := rfl
    have m2 : bin2 .sub (.bl b) (.int 1) = .ok (.v (.int (b2 b - 1))) := rfl
    have m3 : bin2 .add (.bl b) (.int 13) = .ok (.v (.int (b2 b + 13))) := rfl
    have m4 : bin2 .mul (.int 2) (.bl b) = .ok (.v (.int (2 * b2 b))) := rfl
    have t1 : truth (.bl b) = .ok b := rfl
    have a0 := addl r1.d r2.d (nearL (.bl b)) (by simp [nearL])
    have i1 : isTy (.bl b) .str = false := rfl
    have i3 : tyOk (.bl b) = true := rfl
    simp only [nearL, List.cons_append, List.nil_append] at a0 c3
    simp [a3, b3, s1, m1, m2, m3, m4, t1, i1, i3, nearL, rd_s, a0, c3, -Bool.not_eq_true]
  | _ =>
    first
      | (cases hto; done)
      | (simp only [nearL, List.append_nil] at c3
         simp [a3, b3, nearL, rd_s, c3, isTy, hto])
end MP

end
section
set_option linter.all false
set_option maxRecDepth 100000
set_option maxHeartbeats 4000000
set_option exponentiation.threshold 10000
/-! Values bent. -/
namespace MP
open PySem (Str)
structure HasBent (T : Tab) : Prop extends HasOdd T where
  bent : T (Str.ofString "_law_bent") = some LibP._law_bent
theorem exs_iff_t {C : CallF} {c : MT} {a b rest : MB} {env env1 env2 : En} {r : R} (h : evt C c env = .ok (true, env1)) (h2 : exs C a env1 = .ok (.rt r, env2)) : exs C (.cons (.iff c a b) rest) env = .ok (.rt r, env2) := by
  rw [exs_cons, ex_iff, h]
  simp only [bind_ok', if_pos]
  rw [h2]; rfl
theorem exs_iff_f {C : CallF} {c : MT} {a rest : MB} {env env1 : En} (h : evt C c env = .ok (false, env1)) : exs C (.cons (.iff c a .nil) rest) env = exs C rest env1 := by
  rw [exs_cons, ex_iff, h]
  rfl
theorem run_own {C : CallF} {m : MF} {xs ds ys : List D} {r : R} {e : En} (ho : m.own = true) (hh : m.hot = []) (hl : ds.length + 1 = m.np) (h : exs C m.body (m.start xs ds) = .ok (.rt r, .ow ys :: e)) : run C m xs ds = .ok (r, ys) := by
  unfold run
  rw [hh]
  simp [ho, hl, h]
theorem cut_to (ds : List D) {a : Nat} (h : a ≤ ds.length) : cut ds none (some (a : Int)) = ds.take a := by
  unfold cut sIx
  have h1 : ¬ ((a : Int) < 0) := by omega
  have h2 : min a ds.length = a := by omega
  simp [h1, h2]
theorem cut_from (ds : List D) {a : Nat} (h : a ≤ ds.length) : cut ds (some (a : Int)) none = ds.drop a := by
  unfold cut sIx
  have h1 : ¬ ((a : Int) < 0) := by omega
  have h2 : min a ds.length = a := by omega
  simp [h1, h2]
  exact List.take_of_length_le (by simp)
theorem addt {x y : List D} (h : x.length + y.length ≤ 1000) : bin2 .add (.tup x) (.tup y) = .ok (.v (.tup (x ++ y))) := by
  show (if _ then _ else _) = _
  rw [if_pos (by unfold line; omega)]
@[simp] theorem sl_tup (ds : List D) (lo hi : Option Int) : slice (.tup ds) lo hi = .ok (.v (.tup (cut ds lo hi))) := id rfl
@[simp] theorem ev_rev (C : CallF) (a : ME) (env : En) : ev C (.rev a) env = (ev C a env).bind fun (x, env) => match x.d with | .lst ds => .ok (.o ds.reverse, env) | .tup ds => .ok (.v (.tup ds.reverse), env) | _ => .bad := id rfl
abbrev bentTest : MT := .or (.not (.v (.isi [.tuple] (.var 1)))) (.or (.v (.cmp .eq (.var 1) (.tup .nil))) (.v (.cmp .eq (.callo (Str.ofString "_law_under") 0 (.cons (.con (.int 7)) .nil)) (.con (.int 0)))))
theorem bent_ok {T : Tab} (F : HasBent T) {B S L : Nat} (hB : B0 ≤ B) (hB2 : B ≤ 2 ^ 200) (hS : 2000 ≤ S) (hS2 : S ≤ 3000) (hL : 16 ≤ L) (hL2 : L ≤ 100) (k : Nat) : ∀ (n : Nat) (v : D) {xs : List D}, n ≤ 40 → vd B S L n v = true → VatOk xs →
    ∃ (r : R) (ys : List D), VatOk ys ∧ vd (2 * B + 13) (S + 1) (L + 1) (n + 6) r.d = true ∧ call T (k + 6 + n) (Str.ofString "_law_bent") xs [v] = .ok (r, ys)
  | n, v, xs, hn, hv, hx => by
    rw [show k + 6 + n = (k + 5 + n) + 1 from by omega, call_of F.bent]
    have hu := fun (xs : List D) (m : Int) (hx : VatOk xs) (hm : 0 < m) (hm2 : m < 1000000) => under_ok F.toHasUnder (k + 4 + n) hx hm hm2
    have hs := fun (xs ds : List D) (hx : VatOk xs) a b => some_lst F.toHasUnder (k + 3 + n) (xs := xs) (ds := ds) hx a b
    have ho := fun (xs : List D) (hx : VatOk xs) => odd_ok F.toHasOdd (k + 1 + n) 1 hx
    rw [show k + 4 + n + 1 = k + 5 + n from by omega] at hu
    rw [show k + 3 + n + 2 = k + 5 + n from by omega] at hs
    rw [show k + 1 + n + 3 + 1 = k + 5 + n from by omega] at ho
    have ih : ∀ (m : Nat) (w : D), n = m + 1 → vd B S L m w = true → ∀ (xs : List D), VatOk xs → ∃ (r : R) (ys : List D), VatOk ys ∧ vd (2 * B + 13) (S + 1) (L + 1) (m + 6) r.d = true ∧ call T (k + 5 + n) (Str.ofString "_law_bent") xs [w] = .ok (r, ys) := by
      intro m w hm hw xs hx
      have := bent_ok F hB hB2 hS hS2 hL hL2 k m w (by omega) hw hx
      rw [show k + 5 + n = k + 6 + m from by omega]
      exact this
    generalize call T (k + 5 + n) = C at hu hs ho ih
    have hto : tyOk v = true := sh_ty (vd_sh hv)
    have near : ∀ xs, VatOk xs → evt C bentTest [.ow xs, .fz v, .un, .un, .un] = .ok (true, [.ow xs, .fz v, .un, .un, .un]) ∨ True := fun _ _ => .inr trivial
    have fin : ∀ ys, VatOk ys → (∃ zs, evt C bentTest [.ow xs, .fz v, .un, .un, .un] = .ok (true, [.ow zs, .fz v, .un, .un, .un]) ∧ VatOk zs) → ∃ (r : R) (ys : List D), VatOk ys ∧ vd (2 * B + 13) (S + 1) (L + 1) (n + 6) r.d = true ∧ run C LibP._law_bent xs [v] = .ok (r, ys) := by
      rintro _ _ ⟨zs, ht, hz⟩
      obtain ⟨d, ws, s2, w1, w2, w3⟩ := near_ok (C := C) hv hB hB2 hS hS2 hL hz ho hs
      exact ⟨.v d, ws, w1, vd_mono (Nat.le_refl _) (Nat.le_refl _) (Nat.le_refl _) (by omega) w2, run_own rfl rfl rfl (exs_iff_t ht w3)⟩
    by_cases htup : ∃ ds, v = .tup ds
    case neg =>
      refine fin xs hx ⟨xs, ?_, hx⟩
      have : isTy v .tuple = false := by
        cases v <;> first | rfl | exact absurd ⟨_, rfl⟩ htup
      simp [hto, this]
    obtain ⟨ds, rfl⟩ := htup
    have h60 : sh 60 (.tup ds) = true := sh_mono (by omega) (vd_sh hv)
    have ceq : cmp2 .eq (.tup ds) (.tup []) = .ok ds.isEmpty := by
      rw [cmp_eq h60 (by rfl)]
      cases ds <;> rfl
    by_cases he : ds = []
    · subst he
      exact fin xs hx ⟨xs, by simp [ceq], hx⟩
    · have hem : ds.isEmpty = false := by cases ds with | nil => exact absurd rfl he | cons _ _ => rfl
      rw [hem] at ceq
      obtain ⟨z, ys, u1, u2, u3, u4⟩ := hu xs 7 hx (by omega) (by omega)
      by_cases hz : z = 0
      · subst hz
        exact fin ys u1 ⟨ys, by simp [ceq, u4], u1⟩
      · have hzb : (z == 0) = false := by rw [beq_eq_false_iff_ne]; exact hz
        have ht : evt C bentTest [.ow xs, .fz (.tup ds), .un, .un, .un] = .ok (false, [.ow ys, .fz (.tup ds), .un, .un, .un]) := by simp [ceq, u4, hzb]
        obtain ⟨m, rfl, hlen, hall⟩ := vd_tup hv
        have hpos : 0 < ds.length := List.length_pos_iff.mpr he
        obtain ⟨a', zs, a1, a2, a3, a4⟩ := hu ys ds.length u1 (by omega) (by omega)
        obtain ⟨a, rfl⟩ := Int.eq_ofNat_of_zero_le a2
        have hal : a < ds.length := by omega
        obtain ⟨w, ws, b1, b2', b3, b4⟩ := hu zs 9 a1 (by omega) (by omega)
        have c1 := cut_to ds (a := a) (by omega)
        have c2 : cut ds (some ((a : Int) + 1)) none = ds.drop (a + 1) := cut_from ds (a := a + 1) (by omega)
        have c3 : cut ds none (some ((a : Int) + 1)) = ds.take (a + 1) := cut_to ds (a := a + 1) (by omega)
        have c4 := cut_from ds (a := a) (by omega)
        have p1 : bin2 .add (.int (a : Int)) (.int 1) = .ok (.v (.int ((a : Int) + 1))) := rfl
        have up : ∀ d ∈ ds, vd (2 * B + 13) (S + 1) (L + 1) (m + 6) d = true := fun d hd => vd_mono (by omega) (by omega) (by omega) (by omega) (hall d hd)
        have mem1 : ∀ d ∈ ds.take a ++ ds.drop (a + 1), d ∈ ds := fun d hd => by
          rcases List.mem_append.mp hd with h | h
          · exact List.mem_of_mem_take h
          · exact List.mem_of_mem_drop h
        have mem2 : ∀ d ∈ ds.take (a + 1) ++ ds.drop a, d ∈ ds := fun d hd => by
          rcases List.mem_append.mp hd with h | h
          · exact List.mem_of_mem_take h
          · exact List.mem_of_mem_drop h
        have q1 : bin2 .add (.tup (ds.take a)) (.tup (ds.drop (a + 1))) = .ok (.v (.tup (ds.take a ++ ds.drop (a + 1)))) := addt (by simp; omega)
        have q2 : bin2 .add (.tup (ds.take (a + 1))) (.tup (ds.drop a)) = .ok (.v (.tup (ds.take (a + 1) ++ ds.drop a))) := addt (by simp; omega)
        have body : ∀ {r : R} {e : En} {ys' : List D}, exs C (.cons (.par [(3, false), (4, false)] (.cons (.callo (Str.ofString "_law_under") 0 (.cons (.lenv 1) .nil)) (.cons (.callo (Str.ofString "_law_under") 0 (.cons (.con (.int 9)) .nil)) .nil))) (.cons (.iff (.v (.cmp .eq (.var 4) (.con (.int 0)))) (.cons (.ret (.bin .add (.sl (.var 1) .none (.some (.var 3))) (.sl (.var 1) (.some (.bin .add (.var 3) (.con (.int 1)))) .none))) .nil) .nil) (.cons (.iff (.v (.cmp .eq (.var 4) (.con (.int 1)))) (.cons (.ret (.bin .add (.sl (.var 1) .none (.some (.bin .add (.var 3) (.con (.int 1))))) (.sl (.var 1) (.some (.var 3)) .none))) .nil) .nil) (.cons (.iff (.v (.cmp .eq (.var 4) (.con (.int 2)))) (.cons (.ret (.rev (.var 1))) .nil) .nil) (.cons (.iff (.v (.cmp .eq (.var 4) (.con (.int 3)))) (.cons (.ret (.bi .list (.cons (.var 1) .nil))) .nil) .nil) (.cons (.ret (.bin .add (.bin .add (.sl (.var 1) .none (.some (.var 3))) (.tup (.cons (.callo (Str.ofString "_law_bent") 0 (.cons (.ixv 1 (.var 3)) .nil)) .nil))) (.sl (.var 1) (.some (.bin .add (.var 3) (.con (.int 1)))) .none))) .nil)))))) [.ow ys, .fz (.tup ds), .un, .un, .un] = .ok (.rt r, .ow ys' :: e) →
            run C LibP._law_bent xs [.tup ds] = .ok (r, ys') := fun h => run_own rfl rfl rfl ((exs_iff_f ht).trans h)
        by_cases w0 : w = 0
        · subst w0
          refine ⟨.v (.tup (ds.take a ++ ds.drop (a + 1))), ws, b1, ?_, body (e := [.fz (.tup ds), .un, .fz (.int a), .fz (.int 0)]) ?_⟩
          · exact vd_mk (by simp; omega) fun d hd => up d (mem1 d hd)
          · simp [a4, b4, rd_s, p1, c1, c2, q1]
        · have w0b : (w == 0) = false := by rw [beq_eq_false_iff_ne]; exact w0
          by_cases w1 : w = 1
          · subst w1
            refine ⟨.v (.tup (ds.take (a + 1) ++ ds.drop a)), ws, b1, ?_, body (e := [.fz (.tup ds), .un, .fz (.int a), .fz (.int 1)]) ?_⟩
            · exact vd_mk (by simp; omega) fun d hd => up d (mem2 d hd)
            · simp [a4, b4, rd_s, p1, c3, c4, q2]
          · have w1b : (w == 1) = false := by rw [beq_eq_false_iff_ne]; exact w1
            by_cases w2 : w = 2
            · subst w2
              refine ⟨.v (.tup ds.reverse), ws, b1, ?_, body (e := [.fz (.tup ds), .un, .fz (.int a), .fz (.int 2)]) ?_⟩
              · exact vd_mk (by simp; omega) fun d hd => up d (by simpa using hd)
              · simp [a4, b4, rd_s]
            · have w2b : (w == 2) = false := by rw [beq_eq_false_iff_ne]; exact w2
              by_cases w3 : w = 3
              · subst w3
                refine ⟨.o ds, ws, b1, ?_, body (e := [.fz (.tup ds), .un, .fz (.int a), .fz (.int 3)]) ?_⟩
                · exact vd_mkl (by omega) fun d hd => up d hd
                · simp [a4, b4, rd_s]
              · have w3b : (w == 3) = false := by rw [beq_eq_false_iff_ne]; exact w3
                obtain ⟨r, vs, r1, r2, r3⟩ := ih m ds[a] rfl (hall _ (List.getElem_mem hal)) ws b1
                have it : item (.tup ds) (.int a) = .ok ds[a] := by
                  simp only [item, at_, place]
                  rw [if_pos (by omega), if_pos (by omega), Option.bind_some]
                  simp [hal]
                have q3 : bin2 .add (.tup (ds.take a)) (.tup [r.d]) = .ok (.v (.tup (ds.take a ++ [r.d]))) := addt (by simp; omega)
                have q4 : bin2 .add (.tup (ds.take a ++ [r.d])) (.tup (ds.drop (a + 1))) = .ok (.v (.tup (ds.take a ++ [r.d] ++ ds.drop (a + 1)))) := addt (by simp; omega)
                refine ⟨.v (.tup (ds.take a ++ [r.d] ++ ds.drop (a + 1))), vs, r1, ?_, body (e := [.fz (.tup ds), .un, .fz (.int a), .fz (.int w)]) ?_⟩
                · refine vd_mk (by simp; omega) fun d hd => ?_
                  simp only [List.mem_append, List.mem_cons, List.not_mem_nil, or_false] at hd
                  rcases hd with (hd | rfl) | hd
                  · exact up d (List.mem_of_mem_take hd)
                  · exact r2
                  · exact up d (List.mem_of_mem_drop hd)
                · simp [a4, b4, rd_s, p1, c1, c2, q3, q4, it, r3, w0b, w1b, w2b, w3b]
end MP

end
section
set_option linter.all false
set_option maxRecDepth 100000
set_option maxHeartbeats 4000000
set_option exponentiation.threshold 10000
/-! Small values as people; contracts and people are small. -/
namespace MP
open PySem (Str)
def prodD : List D → Nat
  | [] => 1
  | x :: r => (kq (kHead x)).den * prodD r
theorem prodD_pos : ∀ ks : List D, 0 < prodD ks
  | [] => by decide
  | x :: r => Nat.mul_pos (kq (kHead x)).den_pos (prodD_pos r)
theorem dvd_prodD : ∀ {ks : List D} {x : D}, x ∈ ks → (kq (kHead x)).den ∣ prodD ks
  | y :: r, x, h => by
    rcases List.mem_cons.mp h with rfl | h
    · exact ⟨prodD r, rfl⟩
    · obtain ⟨c, hc⟩ := dvd_prodD h
      exact ⟨(kq (kHead y)).den * c, by show (kq (kHead y)).den * prodD r = _; rw [hc]; rw [Nat.mul_left_comm]⟩
theorem prodD_le {B : Nat} (hB : 1 ≤ B) : ∀ {ks : List D} {L : Nat}, ks.length ≤ L → (∀ x ∈ ks, (kq (kHead x)).den ≤ B) → prodD ks ≤ B ^ L
  | [], L, _, _ => Nat.one_le_pow _ _ hB
  | x :: r, L, hl, h => by
    cases L with
    | zero => simp at hl
    | succ L =>
      have h1 := prodD_le hB (ks := r) (L := L) (by simpa using hl) fun y hy => h y (by simp [hy])
      show (kq (kHead x)).den * prodD r ≤ _
      rw [Nat.pow_succ, Nat.mul_comm]
      exact Nat.mul_le_mul h1 (h x (by simp))
theorem perSm_of {B S L n : Nat} {v : D} (hv : vd B S L n v = true) (hB1 : 1 ≤ B) (hB : B < 2 ^ 8999) (hBL : B ^ L < Big) (hL : 1 ≤ L) : PerSm v where
  frs := fun s ks x f w e hx ex => by
    subst e
    obtain ⟨m1, rfl, _, h1⟩ := vd_tup hv
    obtain ⟨m2, rfl, _, h2⟩ := vd_tup (h1 (.tup ks) (by simp))
    have h3 := h2 x hx
    subst ex
    obtain ⟨m3, rfl, _, h4⟩ := vd_tup h3
    intro a b ef
    have h5 := h4 f (by simp)
    subst ef
    obtain ⟨m4, rfl, _, h6⟩ := vd_tup h5
    have h7 := h6 (.int b) (by simp)
    rw [vd_int, decide_eq_true_eq] at h7
    exact Nat.lt_of_le_of_lt h7 (Nat.lt_trans hB (Nat.pow_lt_pow_right (by decide) (by decide)))
  all := fun s ks e hl hall => by
    subst e
    obtain ⟨m1, rfl, _, h1⟩ := vd_tup hv
    obtain ⟨m2, rfl, hkl, h2⟩ := vd_tup (h1 (.tup ks) (by simp))
    have key : ∀ x ∈ ks, (kq (kHead x)).den ≤ B ∧ (kq (kHead x)).num.natAbs ≤ B := fun x hx => by
      have hk := List.all_eq_true.mp hall x hx
      unfold kneeB at hk
      split at hk
      · rename_i f w
        rw [Bool.and_eq_true] at hk
        obtain ⟨m3, rfl, _, h4⟩ := vd_tup (h2 _ hx)
        have h5 := h4 f (by simp)
        have ef := frB_kq hk.1
        have e2 : kHead (.tup [f, w]) = f := rfl
        rw [e2]
        rw [ef] at h5
        obtain ⟨m4, rfl, _, h6⟩ := vd_tup h5
        have h7 := h6 (.int (kq f).den) (by simp)
        have h8 := h6 (.int (kq f).num) (by simp)
        rw [vd_int, decide_eq_true_eq] at h7 h8
        exact ⟨by simpa using h7, h8⟩
      · cases hk
    refine ⟨prodD ks, prodD_pos ks, Nat.lt_of_le_of_lt (prodD_le hB1 (L := L) hkl fun x hx => (key x hx).1) hBL, fun x hx => ⟨dvd_prodD hx, ?_⟩⟩
    refine Nat.lt_of_le_of_lt (key x hx).2 (Nat.lt_of_le_of_lt ?_ hBL)
    exact Nat.le_self_pow (by omega) B
theorem vd_word {x : Str} {n : Nat} (h : (strOk x && decide (x.cps.size ≤ 2000)) = true) : vd B0 2000 16 n (.str x) = true := by rw [vd_str]; exact h
theorem vd_num {i : Int} {n : Nat} (h : i.natAbs ≤ 1000) : vd B0 2000 16 n (.int i) = true := by
  rw [vd_int, decide_eq_true_eq]
  exact Nat.le_trans h (by decide)
theorem inR_abs {i lo hi : Int} (h : inR i lo hi) (h1 : -1000 ≤ lo) (h2 : hi ≤ 1000) : i.natAbs ≤ 1000 := by
  obtain ⟨a, b⟩ := h; omega
mutual
theorem vd_ctr : ∀ (c : Ctr) (d : Nat), c.ok d → vd B0 2000 16 (3 * d) c.d = true
  | _, 0, h => by cases ‹Ctr› <;> exact h.elim
  | .sure a, d + 1, h => by
    rw [show 3 * (d + 1) = (3 * d + 2) + 1 from by omega]
    refine vd_mk (by simp) fun x hx => ?_
    simp only [List.mem_cons, List.not_mem_nil, or_false] at hx
    rcases hx with rfl | rfl
    · exact vd_word (by decide +kernel)
    · exact vd_num (inR_abs h (by omega) (by omega))
  | .draw l, d + 1, h => by
    have hl := vd_ctrl l d h.2
    rw [show 3 * (d + 1) = (3 * d + 1 + 1) + 1 from by omega]
    refine vd_mk (by simp) fun x hx => ?_
    simp only [List.mem_cons, List.not_mem_nil, or_false] at hx
    rcases hx with rfl | rfl
    · exact vd_word (by decide +kernel)
    · refine vd_mk ?_ hl
      have : l.ds.length = l.len := by
        have key : ∀ l : CtrL, l.ds.length = l.len := fun l => by
          induction l using CtrL.rec (motive_1 := fun _ => True) with
          | nil => rfl
          | cons w c r _ ih => simp [CtrL.ds, CtrL.len, ih]
          | _ => trivial
        exact key l
      have := h.1.2
      omega
  | .cap a c, d + 1, h => by
    have hc := vd_ctr c d h.2
    rw [show 3 * (d + 1) = (3 * d + 2) + 1 from by omega]
    refine vd_mk (by simp) fun x hx => ?_
    simp only [List.mem_cons, List.not_mem_nil, or_false] at hx
    rcases hx with rfl | rfl | rfl
    · exact vd_word (by decide +kernel)
    · exact vd_num (inR_abs h.1 (by omega) (by omega))
    · exact vd_mono (Nat.le_refl _) (Nat.le_refl _) (Nat.le_refl _) (by omega) hc
  | .floor a c, d + 1, h => by
    have hc := vd_ctr c d h.2
    rw [show 3 * (d + 1) = (3 * d + 2) + 1 from by omega]
    refine vd_mk (by simp) fun x hx => ?_
    simp only [List.mem_cons, List.not_mem_nil, or_false] at hx
    rcases hx with rfl | rfl | rfl
    · exact vd_word (by decide +kernel)
    · exact vd_num (inR_abs h.1 (by omega) (by omega))
    · exact vd_mono (Nat.le_refl _) (Nat.le_refl _) (Nat.le_refl _) (by omega) hc
  | .more a c, d + 1, h => by
    have hc := vd_ctr c d h.2
    rw [show 3 * (d + 1) = (3 * d + 2) + 1 from by omega]
    refine vd_mk (by simp) fun x hx => ?_
    simp only [List.mem_cons, List.not_mem_nil, or_false] at hx
    rcases hx with rfl | rfl | rfl
    · exact vd_word (by decide +kernel)
    · exact vd_num (inR_abs h.1 (by omega) (by omega))
    · exact vd_mono (Nat.le_refl _) (Nat.le_refl _) (Nat.le_refl _) (by omega) hc
  | .share n m c, d + 1, h => by
    have hc := vd_ctr c d h.2
    rw [show 3 * (d + 1) = (3 * d + 2) + 1 from by omega]
    refine vd_mk (by simp) fun x hx => ?_
    simp only [List.mem_cons, List.not_mem_nil, or_false] at hx
    rcases hx with rfl | rfl | rfl | rfl
    · exact vd_word (by decide +kernel)
    · exact vd_num (inR_abs h.1.1 (by omega) (by omega))
    · exact vd_num (inR_abs h.1.2 (by omega) (by omega))
    · exact vd_mono (Nat.le_refl _) (Nat.le_refl _) (Nat.le_refl _) (by omega) hc
  | .insured n m a c, d + 1, h => by
    have hc := vd_ctr c d h.2
    rw [show 3 * (d + 1) = (3 * d + 2) + 1 from by omega]
    refine vd_mk (by simp) fun x hx => ?_
    simp only [List.mem_cons, List.not_mem_nil, or_false] at hx
    rcases hx with rfl | rfl | rfl | rfl | rfl
    · exact vd_word (by decide +kernel)
    · exact vd_num (inR_abs h.1.1 (by omega) (by omega))
    · exact vd_num (inR_abs h.1.2.1 (by omega) (by omega))
    · exact vd_num (inR_abs h.1.2.2.2 (by omega) (by omega))
    · exact vd_mono (Nat.le_refl _) (Nat.le_refl _) (Nat.le_refl _) (by omega) hc
theorem vd_ctrl : ∀ (l : CtrL) (d : Nat), l.ok d → ∀ x ∈ l.ds, vd B0 2000 16 (3 * d + 1) x = true
  | .nil, _, _ => fun x hx => by simp [CtrL.ds] at hx
  | .cons w c r, d, h => by
    intro x hx
    simp only [CtrL.ds, List.mem_cons] at hx
    rcases hx with rfl | hx
    · refine vd_mk (by simp) fun y hy => ?_
      simp only [List.mem_cons, List.not_mem_nil, or_false] at hy
      rcases hy with rfl | rfl
      · exact vd_num (inR_abs h.1 (by omega) (by omega))
      · exact vd_ctr c d h.2.1
    · exact vd_ctrl r d h.2.2 x hx
end
end MP

end
section
set_option linter.all false
set_option maxRecDepth 100000
set_option maxHeartbeats 4000000
set_option exponentiation.threshold 10000
/-! Drawn people are small. -/
namespace MP
open PySem (Str)
theorem mem_rangeG : ∀ (n : Nat) (lo : Int) {d : D}, d ∈ rangeD lo n → ∃ j, d = .int j ∧ lo ≤ j ∧ j < lo + n
  | 0, lo, d, h => by cases h
  | n + 1, lo, d, h => by
    rw [rangeD] at h
    rcases List.mem_cons.mp h with rfl | h
    · exact ⟨lo, rfl, Int.le_refl _, by omega⟩
    · obtain ⟨j, h1, h2, h3⟩ := mem_rangeG n (lo + 1) h
      exact ⟨j, h1, by omega, by omega⟩
structure HasLPer (T : Tab) : Prop extends HasUnder T where
  low : T (Str.ofString "_law_low") = some Lib._law_low
  person : T (Str.ofString "_law_person") = some LibP._law_person
theorem fr_small {t : Int} (h : t.natAbs ≤ 100) : vd B0 2000 16 1 (fr (mkRat t 2)) = true := by
  have e : mkRat t 2 = Rat.normalize t 2 (by omega) := by rw [Rat.mkRat_def, dif_neg (by omega)]
  have e2 : fr (mkRat t 2) = .tup [.int (t / (Nat.gcd t.natAbs 2 : Nat)), .int (2 / (Nat.gcd t.natAbs 2 : Nat) : Nat)] := by
    rw [e, Rat.normalize_eq]; rfl
  rw [e2]
  refine vd_mk (by simp) fun y hy => ?_
  simp only [List.mem_cons, List.not_mem_nil, or_false] at hy
  rcases hy with rfl | rfl
  · refine vd_num ?_
    have := Int.natAbs_ediv_le_natAbs t ((Nat.gcd t.natAbs 2 : Nat) : Int)
    omega
  · refine vd_num ?_
    have : 2 / Nat.gcd t.natAbs 2 ≤ 2 := Nat.div_le_self _ _
    show ((2 / Nat.gcd t.natAbs 2 : Nat) : Int).natAbs ≤ 1000
    rw [Int.natAbs_natCast]
    exact Nat.le_trans this (by decide)
theorem person_ok {T : Tab} (F : HasLPer T) (k : Nat) {xs : List D} (hx : VatOk xs) : ∃ (v : D) (ys : List D), VatOk ys ∧ vd B0 2000 16 4 v = true ∧ call T (k + 2) (Str.ofString "_law_person") xs [] = .ok (.v v, ys) := by
  rw [call_of F.person]
  have hu := fun (xs : List D) (m : Int) (hx : VatOk xs) (hm : 0 < m) (hm2 : m < 1000000) => under_ok F.toHasUnder k hx hm hm2
  have hl := fun (t : Int) => low_ok F.low k t 2 (by omega) (by decide)
  generalize call T (k + 1) = C at hu hl
  obtain ⟨env, e1, ⟨ws, ks, s2, w1, w2, w3, rfl⟩⟩ := forL_invN (b := turn C (.nm 2) (.cons (.iff (.v (.cmp .eq (.callo (Str.ofString "_law_under") 0 (.cons (.con (.int 7)) .nil)) (.con (.int 0)))) (.cons (.asg 1 false (.bin .add (.var 1) (.tup (.cons (.tup (.cons (.call (Str.ofString "_law_low") (.cons (.bin .add (.bin .mul (.con (.int 2)) (.var 2)) (.callo (Str.ofString "_law_under") 0 (.cons (.con (.int 2)) .nil))) (.cons (.con (.int 2)) .nil))) (.cons (.bin .add (.con (.int 1)) (.callo (Str.ofString "_law_under") 0 (.cons (.con (.int 4)) .nil))) .nil))) .nil)))) .nil) .nil) .nil))
    (I := fun m env => ∃ ws ks s2, VatOk ws ∧ ks.length ≤ m ∧ (∀ x ∈ ks, vd B0 2000 16 2 x = true) ∧ env = [.ow ws, .fz (.tup ks), s2]) (rangeD (-4) 16) 0 [.ow xs, .fz (.tup []), .un] ⟨xs, [], .un, hx, by simp, by simp, rfl⟩ (by
      rintro m d env hd hm ⟨ws, ks, s2, w1, w2, w3, rfl⟩
      obtain ⟨b, rfl, b1, b2⟩ := mem_rangeG _ _ hd
      rw [length_rangeD] at hm
      obtain ⟨z, ys, u1, u2, u3, u4⟩ := hu ws 7 w1 (by omega) (by omega)
      by_cases hz : z = 0
      · subst hz
        obtain ⟨t, zs, v1, v2, v3, v4⟩ := hu ys 2 u1 (by omega) (by omega)
        obtain ⟨q, vs, q1, q2, q3, q4⟩ := hu zs 4 v1 (by omega) (by omega)
        have l := hl (2 * b + t)
        have a1 : bin2 .add (.tup ks) (.tup [.tup [fr (mkRat (2 * b + t) 2), .int (1 + q)]]) = .ok (.v (.tup (ks ++ [.tup [fr (mkRat (2 * b + t) 2), .int (1 + q)]]))) := addt (by simp; omega)
        have m1 : bin2 .mul (.int 2) (.int b) = .ok (.v (.int (2 * b))) := mul_s (by omega) (by omega)
        have m2 : bin2 .add (.int (2 * b)) (.int t) = .ok (.v (.int (2 * b + t))) := rfl
        have m3 : bin2 .add (.int 1) (.int q) = .ok (.v (.int (1 + q))) := rfl
        refine ⟨[.ow vs, .fz (.tup (ks ++ [.tup [fr (mkRat (2 * b + t) 2), .int (1 + q)]])), .fz (.int b)], ?_, vs, _, _, q1, by simp; omega, fun x hx => ?_, rfl⟩
        · have l' : C (Str.ofString "_law_low") [] [.int (2 * b + t), .int 2] = .ok (.v (fr (mkRat (2 * b + t) 2)), []) := l
          generalize fr (mkRat (2 * b + t) 2) = ff at a1 l' ⊢
          simp [u4, v4, q4, m1, m2, m3, l', a1, rd_s]
        · rcases List.mem_append.mp hx with hx | hx
          · exact w3 x hx
          · have : x = .tup [fr (mkRat (2 * b + t) 2), .int (1 + q)] := by simpa using hx
            subst this
            refine vd_mk (by simp) fun y hy => ?_
            simp only [List.mem_cons, List.not_mem_nil, or_false] at hy
            rcases hy with rfl | rfl
            · exact fr_small (by omega)
            · exact vd_num (by omega)
      · have hzb : (z == 0) = false := by rw [beq_eq_false_iff_ne]; exact hz
        refine ⟨[.ow ys, .fz (.tup ks), .fz (.int b)], by simp [u4, hzb, rd_s], ys, ks, _, u1, by omega, w3, rfl⟩)
  rw [length_rangeD] at w2
  have hk : vd B0 2000 16 3 (.tup ks) = true := vd_mk (by omega) w3
  have hr : rOk (-4) = true := by decide
  have hr' : rOk 12 = true := by decide
  have cn : cmp2 .ne (.tup ks) (.tup []) = .ok (!ks.isEmpty) := by
    rw [cmp_ne (sh_mono (by omega) (vd_sh hk)) (by rfl)]
    cases ks <;> rfl
  have hrn : (12 - -4 : Int).toNat = 16 := by decide
  cases hke : ks.isEmpty with
  | true =>
    rw [hke] at cn
    refine ⟨.tup [.int 1, .tup ks], ws, w1, ?_, ?_⟩
    · refine vd_mk (by simp) fun y hy => ?_
      simp only [List.mem_cons, List.not_mem_nil, or_false] at hy
      rcases hy with rfl | rfl
      · exact vd_num (by decide)
      · exact hk
    · unfold run LibP._law_person
      simp [MF.start, hr, hr', e1, cn, rd_s, -turn_app]
  | false =>
    rw [hke] at cn
    obtain ⟨q, vs, q1, q2, q3, q4⟩ := hu ws 3 w1 (by omega) (by omega)
    refine ⟨.tup [.int q, .tup ks], vs, q1, ?_, ?_⟩
    · refine vd_mk (by simp) fun y hy => ?_
      simp only [List.mem_cons, List.not_mem_nil, or_false] at hy
      rcases hy with rfl | rfl
      · exact vd_num (by omega)
      · exact hk
    · unfold run LibP._law_person
      simp [MF.start, hr, hr', e1, cn, q4, rd_s, -turn_app]
end MP

end
section
set_option linter.all false
set_option maxRecDepth 100000
set_option maxHeartbeats 4000000
set_option exponentiation.threshold 10000
namespace K01
open MP
open PySem (Str)
def lvl : Nat := 60
theorem hIs : HasIs T := { whole := T_is_whole, amount := T_is_amount, numbers := T_are_numbers, inner := T_inner_values, count := T_sure_count, has := T_has_contract }
theorem hDraw : HasDraw T := { vat := T__law_vat, under := T__law_under, pick := T__law_some, whole := T__law_is_whole, shape := T__law_shape, ends := T__law_ends, isc := T__law_is_contract, contract := T__law_contract, small := T__law_small }
theorem hBent : HasBent T := { vat := T__law_vat, under := T__law_under, pick := T__law_some, odd := T__law_odd, bent := T__law_bent }
theorem hLPer : HasLPer T := { vat := T__law_vat, under := T__law_under, pick := T__law_some, low := T__law_low, person := T__law_person }
theorem hPers : HasPers T := { lowest := T_lowest, plus := T_plus, minus := T_minus, times := T_times, is_below := T_is_below, lesser := T_lesser, greater := T_greater, total := T_total, multiple_of := T_multiple_of, in_order := T_in_order, isf := T_is_fraction, hasp := T_has_person }
theorem hLPers : HasLPers T := { low := T__law_low, less := T__law_less, ordered := T__law_ordered, isf := T__law_is_fraction, isp := T__law_is_person }
@[simp] theorem ev_tryn (C : CallF) (f : Str) (a : ME) (env : En) : ev C (.tryn f a) env = (match ev C a (lock env) with
    | .ok _ => .ok (.v (.str ⟨#[]⟩), env)
    | .err e => (noErr (C f [] [.str e.cls])).bind fun (r, _) => .ok (r, env)
    | .bad => .bad) := id rfl
@[simp] theorem ev_callv (C : CallF) (fs : List Str) (i : Nat) (es : MEs) (env : En) : ev C (.callv fs i es) env = match get env i with
      | .fz (.fn f) => if fs.contains f then (evs C es env).bind fun (ds, env) => (C f [] ds).bind fun (r, _) => .ok (r, env) else .bad
      | _ => .bad := id rfl
theorem need_err (k : Nat) {v : D} (hv : sh 59 v = true) (h : isC v = false) : call T (k + 12) (Str.ofString "need_contract") [] [v] = .err ⟨Str.ofString "InvalidContract"⟩ := by
  rw [call_of T_need_contract]
  have l := has_ok hIs k hv
  rw [h] at l
  generalize call T (k + 11) = C at l
  unfold run m_need_contract
  simp [MF.start, l]
theorem rows_err (k : Nat) {v : D} (hv : sh 59 v = true) (h : isC v = false) : call T (k + 13) (Str.ofString "rows") [] [v] = .err ⟨Str.ofString "InvalidContract"⟩ := by
  rw [call_of T_rows]
  have l1 := need_err k hv h
  generalize call T (k + 12) = C at l1
  unfold run m_rows
  simp [MF.start, l1]
theorem mean_err (k : Nat) {v : D} (hv : sh 59 v = true) (h : isC v = false) : call T (k + 13) (Str.ofString "mean") [] [v] = .err ⟨Str.ofString "InvalidContract"⟩ := by
  rw [call_of T_mean]
  have l1 := need_err k hv h
  generalize call T (k + 12) = C at l1
  unfold run m_mean
  simp [MF.start, l1]
theorem names_val (k : Nat) : call T (k + 1) (Str.ofString "_law_names") [] [.str (Str.ofString "InvalidContract")] = .ok (.v (.str (Str.ofString "contract value")), []) := by
  rw [call_of T__law_names]
  generalize call T k = C
  rfl
theorem isc_call (k : Nat) {v : D} (hv : sh 59 v = true) : call T (k + 12) (Str.ofString "is_contract") [] [v] = .ok (.v (.bl (isC v)), []) := by
  rw [call_of T_is_contract]
  have l := has_ok hIs k hv
  generalize call T (k + 11) = C at l
  unfold run m_is_contract
  simp [MF.start, l]
theorem isp_call (k : Nat) {v : D} (hv : sh 59 v = true) (hp : PerSm v) : call T (k + 7) (Str.ofString "is_person") [] [v] = .ok (.v (.bl (perB v)), []) := by
  rw [call_of T_is_person]
  have l := hasp_ok hPers k hv hp
  generalize call T (k + 6) = C at l
  unfold run m_is_person
  simp [MF.start, l]
theorem truly_call (k : Nat) (b : Bool) : call T (k + 1) (Str.ofString "_law_truly") [] [.bl b, .bl b] = .ok (.v (.bl true), []) := by
  rw [call_of T__law_truly]
  generalize call T k = C
  cases b <;> rfl
theorem judged_ok (k : Nat) {v : D} (hv : sh 59 v = true) (hp : PerSm v) : call T (k + 14) (Str.ofString "_law_judged") [] [v] = .ok (.v (.bl true), []) := by
  rw [call_of T__law_judged]
  have l1 := isc_ok hDraw.toHasShape (k + 3) hv
  have l2 := isc_call (k + 1) hv
  have l3 := truly_call (k + 12)
  have l4 := isp_call (k + 6) hv hp
  have l5 := lisp_ok hLPers (k + 7) hv hp
  have l6 := names_val (k + 12)
  have l7 := fun h => rows_err k hv h
  have l8 := fun h => mean_err k hv h
  rw [show k + 3 + 10 = k + 13 from by omega] at l1
  rw [show k + 1 + 12 = k + 13 from by omega] at l2
  simp only [show k + 12 + 1 = k + 13 from by omega] at l3 l6
  rw [show k + 6 + 7 = k + 13 from by omega] at l4
  rw [show k + 7 + 6 = k + 13 from by omega] at l5
  generalize call T (k + 13) = C at *
  unfold run m__law_judged
  cases hc : isC v with
  | true =>
    rw [hc] at l1 l2
    simp [MF.start, l1, l2, l3, l4, l5, rd_s]
  | false =>
    rw [hc] at l1 l2
    have l7 := l7 hc
    have l8 := l8 hc
    have m2 : bin2 .mul (.lst [.str (Str.ofString "contract value")]) (.int 2) = .ok (.o [.str (Str.ofString "contract value"), .str (Str.ofString "contract value")]) := rfl
    have ne : cmp2 .ne (.lst [.str (Str.ofString "contract value"), .str (Str.ofString "contract value")]) (.lst [.str (Str.ofString "contract value"), .str (Str.ofString "contract value")]) = .ok false := ne_self (by decide +kernel)
    simp [MF.start, l1, l2, l3, l4, l5, l6, l7, l8, rd_s, lock, noOwn, m2, ne]
abbrev inner : MB := (.cons (.iff (.not (.v (.call (Str.ofString "_law_judged") (.cons (.var 7) .nil)))) (.cons (.ret (.con (.bl false))) .nil) .nil) (.cons (.asg 7 false (.callo (Str.ofString "_law_bent") 5 (.cons (.ife (.v (.cmp .eq (.bin .mod (.var 8) (.con (.int 3))) (.con (.int 0)))) (.var 6) (.var 7)) .nil))) .nil))
abbrev mid : MB := (.cons (.asg 7 false (.var 6)) (.cons (.forr (.nm 8) (.r1 (.con (.int 16))) inner) .nil))
abbrev outer : MB := (.cons (.asg 5 true (.call (Str.ofString "_law_vat") (.cons (.var 0) (.cons (.var 1) .nil)))) (.cons (.forr (.nm 6) (.v (.lst (.cons (.callo (Str.ofString "_law_small") 5 (.cons (.con (.int 3)) .nil)) (.cons (.callo (Str.ofString "_law_small") 5 (.cons (.con (.int 5)) .nil)) (.cons (.callo (Str.ofString "_law_person") 5 .nil) (.cons (.callo (Str.ofString "_law_odd") 5 (.cons (.con (.int 2)) .nil)) .nil)))))) mid) .nil))
theorem forL_rng {b : D → En → Out (Fl × En)} {I : Nat → En → Prop} : ∀ (n : Nat) (lo : Nat) (env : En), I lo env → (∀ m env, lo ≤ m → m < lo + n → I m env → ∃ env', b (.int m) env = .ok (.nx, env') ∧ I (m + 1) env') → ∃ env', forL b (rangeD lo n) env = .ok (.nx, env') ∧ I (lo + n) env'
  | 0, lo, env, h, _ => ⟨env, rfl, h⟩
  | n + 1, lo, env, h, hb => by
    obtain ⟨e1, h1, h2⟩ := hb lo env (Nat.le_refl _) (by omega) h
    obtain ⟨e2, h3, h4⟩ := forL_rng n (lo + 1) e1 h2 fun m env a b => hb m env (by omega) (by omega)
    refine ⟨e2, ?_, by rw [show lo + (n + 1) = lo + 1 + n from by omega]; exact h4⟩
    rw [rangeD, forL_cons, h1]
    exact h3
def bB : Nat → Nat
  | 0 => B0
  | n + 1 => 2 * bB n + 13
theorem bB_ge : ∀ n, B0 ≤ bB n
  | 0 => Nat.le_refl _
  | n + 1 => by have := bB_ge n; show _ ≤ 2 * bB n + 13; omega
theorem bB_le {n : Nat} (h : n ≤ 3) : bB n ≤ 2 ^ 107 := by
  have : n = 0 ∨ n = 1 ∨ n = 2 ∨ n = 3 := by omega
  rcases this with rfl | rfl | rfl | rfl <;> decide +kernel
def nn (m : Nat) : Nat := if m = 0 then 0 else (m - 1) % 3 + 1
theorem nn_le (m : Nat) : nn m ≤ 3 := by unfold nn; split <;> omega
/-- a value bent n times -/
abbrev Bt (n : Nat) (v : D) : Prop := vd (bB n) (2000 + n) (16 + n) (18 + 6 * n) v = true
theorem bt_per {n : Nat} {v : D} (hn : n ≤ 3) (h : Bt n v) : PerSm v := by
  refine perSm_of h (Nat.le_trans (by decide) (bB_ge n)) (Nat.lt_of_le_of_lt (bB_le hn) (Nat.pow_lt_pow_right (by decide) (by decide))) ?_ (by omega)
  have h1 : bB n ^ (16 + n) ≤ (2 ^ 107) ^ (16 + n) := Nat.pow_le_pow_left (bB_le hn) _
  rw [← Nat.pow_mul] at h1
  refine Nat.lt_of_le_of_lt h1 ?_
  refine Nat.pow_lt_pow_right (by decide) ?_
  omega
theorem bt_bent {n : Nat} {v : D} {xs : List D} (hn : n ≤ 2) (h : Bt n v) (hx : VatOk xs) : ∃ (r : R) (ys : List D), VatOk ys ∧ Bt (n + 1) r.d ∧ call T 59 (Str.ofString "_law_bent") xs [v] = .ok (r, ys) := by
  obtain ⟨r, ys, h1, h2, h3⟩ := bent_ok hBent (bB_ge n) (Nat.le_trans (bB_le (by omega)) (Nat.pow_le_pow_right (by decide) (by decide))) (by omega) (by omega) (by omega) (by omega) (35 - 6 * n) (18 + 6 * n) v (by omega) h hx
  rw [show 35 - 6 * n + 6 + (18 + 6 * n) = 59 from by omega] at h3
  exact ⟨r, ys, h1, h2, h3⟩
theorem mid_ok {s0 s1 s2 s3 s4 s6 s7 s8 : Sl} {v : D} {xs : List D} (h : Bt 0 v) (hx : VatOk xs) : ∃ ys t7 t8, VatOk ys ∧ turn (call T 59) (.nm 6) mid v [s0, s1, s2, s3, s4, .ow xs, s6, s7, s8] = .ok (.nx, [s0, s1, s2, s3, s4, .ow ys, .fz v, t7, t8]) := by
  obtain ⟨env, e1, ys, w, t8, g1, g2, rfl⟩ := forL_rng (b := turn (call T 59) (.nm 8) inner) (I := fun m env => ∃ ys w t8, VatOk ys ∧ Bt (nn m) w ∧ env = [s0, s1, s2, s3, s4, .ow ys, .fz v, .fz w, t8]) 16 0 [s0, s1, s2, s3, s4, .ow xs, .fz v, .fz v, s8] ⟨xs, v, s8, hx, h, rfl⟩ (by
    rintro m env _ hm ⟨ys, w, t8, g1, g2, rfl⟩
    have hsh : sh 59 w = true := sh_mono (by have := nn_le m; omega) (vd_sh g2)
    have j := judged_ok 45 hsh (bt_per (nn_le m) g2)
    rw [show 45 + 14 = 59 from rfl] at j
    have md : bin2 .mod (.int (m : Int)) (.int 3) = .ok (.v (.int ((m : Int) % 3))) := mod_ok _ (by omega)
    by_cases h3 : m % 3 = 0
    · have hi : (m : Int) % 3 = 0 := by omega
      obtain ⟨r, zs, r1, r2, r3⟩ := bt_bent (n := 0) (by omega) h g1
      have hnn : nn (m + 1) = 1 := by unfold nn; rw [if_neg (by omega)]; omega
      refine ⟨[s0, s1, s2, s3, s4, .ow zs, .fz v, .fz r.d, .fz (.int m)], ?_, zs, r.d, _, r1, by rw [hnn]; exact r2, rfl⟩
      rw [hi] at md
      generalize call T 59 = C at *
      cases r with
      | v d => simp [j, md, r3, rd_s]
      | o ds => simp [j, md, r3, rd_s]
    · have hi : ((m : Int) % 3 == 0) = false := by rw [beq_eq_false_iff_ne]; omega
      have hnm : nn m ≤ 2 := by unfold nn; split <;> omega
      obtain ⟨r, zs, r1, r2, r3⟩ := bt_bent (n := nn m) hnm g2 g1
      have hnn : nn (m + 1) = nn m + 1 := by
        unfold nn
        rw [if_neg (by omega), if_neg (by omega)]
        omega
      refine ⟨[s0, s1, s2, s3, s4, .ow zs, .fz v, .fz r.d, .fz (.int m)], ?_, zs, r.d, _, r1, by rw [hnn]; exact r2, rfl⟩
      generalize call T 59 = C at *
      cases r with
      | v d => simp [j, md, hi, r3, rd_s]
      | o ds => simp [j, md, hi, r3, rd_s])
  refine ⟨ys, .fz w, t8, g1, ?_⟩
  rw [show ((0 : Nat) : Int) = 0 from rfl] at e1
  generalize call T 59 = C at *
  have hr := rOk_small (i := 16) (by omega) (by omega)
  simp [hr, rd_s, e1, -forL_cons]
theorem outer_ok {ns : List Int} {d : D} {j : Int} (hd : d = .int j) (h0 : 0 ≤ j) (h1 : j < 1000) {s1 s5 s6 s7 s8 : Sl} (h6 : s6 = .un ∨ ∃ d, s6 = .fz d) : ∃ t5 t6 t7 t8, (t6 = .un ∨ ∃ d, t6 = .fz d) ∧ turn (call T 59) (.nm 1) outer d [.fz (.frz ns), s1, .un, .un, .un, s5, s6, s7, s8] = .ok (.nx, [.fz (.frz ns), .fz (.int j), .un, .un, .un, t5, t6, t7, t8]) := by
  subst hd
  obtain ⟨xs, hx, e1⟩ := vat_ok hDraw.toHasUnder 58 ns h0 (by omega)
  obtain ⟨v1, x1, a1, _, a2, a3⟩ := small_ok hDraw 45 (n := 3) (by omega) hx
  obtain ⟨v2, x2, b1, _, b2, b3⟩ := small_ok hDraw 43 (n := 5) (by omega) a1
  obtain ⟨v3, x3, c1, c2, c3⟩ := person_ok hLPer 57 b1
  obtain ⟨r4, x4, d1, d2, d3⟩ := odd_ok hBent.toHasOdd 54 2 c1
  have ctr : ∀ v, isC v = true → Bt 0 v := fun v hv => by
    obtain ⟨c, rfl, c2, _⟩ := isC_ctr hv
    exact vd_ctr c 6 c2
  have w1 := ctr v1 a2
  have w2 := ctr v2 b2
  have w3 : Bt 0 v3 := vd_mono (Nat.le_refl _) (Nat.le_refl _) (Nat.le_refl _) (by omega) c2
  have w4 : Bt 0 r4.d := vd_mono (Nat.le_refl _) (by omega) (Nat.le_refl _) (by omega) d2
  obtain ⟨env, e2, ys, t6, t7, t8, _, ht6, rfl⟩ := forL_invN (b := turn (call T 59) (.nm 6) mid) (I := fun _ env => ∃ ys t6 t7 t8, VatOk ys ∧ (t6 = .un ∨ ∃ d, t6 = .fz d) ∧ env = [.fz (.frz ns), .fz (.int j), .un, .un, .un, .ow ys, t6, t7, t8]) [v1, v2, v3, r4.d] 0 [.fz (.frz ns), .fz (.int j), .un, .un, .un, .ow x4, s6, s7, s8] ⟨x4, _, _, _, d1, h6, rfl⟩ (by
    rintro m d env hd _ ⟨ys, t6, t7, t8, g, _, rfl⟩
    have hb : Bt 0 d := by
      simp only [List.mem_cons, List.not_mem_nil, or_false] at hd
      rcases hd with rfl | rfl | rfl | rfl <;> assumption
    obtain ⟨zs, u7, u8, z1, z2⟩ := mid_ok (s0 := .fz (.frz ns)) (s1 := .fz (.int j)) (s2 := .un) (s3 := .un) (s4 := .un) (s6 := t6) (s7 := t7) (s8 := t8) hb g
    exact ⟨_, z2, zs, _, _, _, z1, .inr ⟨_, rfl⟩, rfl⟩)
  refine ⟨.ow ys, t6, t7, t8, ht6, ?_⟩
  rw [show (58 + 1 : Nat) = 59 from rfl] at e1
  rw [show (45 + 10 + 3 + 1 : Nat) = 59 from rfl, show ((3 : Nat) : Int) = 3 from rfl] at a3
  rw [show (43 + 10 + 5 + 1 : Nat) = 59 from rfl, show ((5 : Nat) : Int) = 5 from rfl] at b3
  rw [show (57 + 2 : Nat) = 59 from rfl] at c3
  rw [show (54 + 3 + 2 : Nat) = 59 from rfl, show ((2 : Nat) : Int) = 2 from rfl] at d3
  generalize call T 59 = C at *
  simp [e1, a3, b3, c3, d3, rd_s, e2, -forL_cons]
abbrev one : D := .tup [.str sSure, .int 1]
theorem deep_ok (k : Nat) (n : Nat) (h : 1 ≤ n) (hn : n ≤ 7) : ∃ v, call T (k + 1) (Str.ofString "_law_deep") [] [.int n] = .ok (.v v, []) ∧ sh 40 v = true ∧ isC v = decide (n ≤ 6) := by
  rw [call_of T__law_deep]
  generalize call T k = C
  have : n = 1 ∨ n = 2 ∨ n = 3 ∨ n = 4 ∨ n = 5 ∨ n = 6 ∨ n = 7 := by omega
  rcases this with rfl | rfl | rfl | rfl | rfl | rfl | rfl <;> exact ⟨_, rfl, by decide +kernel, by decide +kernel⟩
theorem addL {x y : List D} (h : x.length + y.length ≤ 1000) : bin2 .add (.lst x) (.lst y) = .ok (.o (x ++ y)) := by
  show (if _ then _ else _) = _
  rw [if_pos (by unfold line; omega)]
abbrev dr (ds : List D) : D := .tup [.str sDraw, .tup ds]
abbrev lisA (d6 : D) : List D := [d6, dr [.tup [.int 12, one], .tup [.int 12, one], .tup [.int 12, one], .tup [.int 12, one]], .tup [.str sShare, .int 0, .int 12, one], .tup [.str sIns, .int 12, .int 12, .int (-1000), one], .tup [.str sSure, .int 1000]]
abbrev lisB (d7 : D) : List D := [d7, dr [.tup [.int 13, one]], dr [.tup [.int 1, one], .tup [.int 1, one], .tup [.int 1, one], .tup [.int 1, one], .tup [.int 1, one]], dr [], .tup [.str sShare, .int 1, .int 0, one], .tup [.str sSure, .int 1001]]
abbrev lisC : List D := [.tup [.str sIns, .int 2, .int 1, .int 0, one], .tup [.str sCap, one, .int 3], .tup [.str sSure, .bl true], .tup [.str sShare, .int 13, .int 1, one], .tup [.str sDraw, .lst [.tup [.int 1, one]]]]
abbrev four : D := dr [.tup [.int 1, one], .tup [.int 1, one], .tup [.int 1, one], .tup [.int 1, one]]
abbrev many : D := dr [.tup [.int 1, four], .tup [.int 1, four], .tup [.int 1, four]]
abbrev lisP : List D := [.tup [.int 1, .tup []], .tup [.int 0, .tup [.tup [.tup [.int 1, .int 2], .int 1]]], .tup [.int (10 ^ 60), .tup [.tup [.tup [.int (-1), .int 1], .int 1], .tup [.tup [.int 0, .int 1], .int (10 ^ 60)]]], .tup [.int 0, .tup []], .tup [.int (-1), .tup []], .tup [.bl true, .tup []], .tup [.int 1, .lst []]]
abbrev lisQ : List D := [.tup [.int 0, .tup [.tup [.tup [.int 2, .int 4], .int 1]]], .tup [.int 0, .tup [.tup [.tup [.int 1, .int 1], .int 0]]], .tup [.int 0, .tup [.tup [.tup [.int 1, .int 1], .int 1], .tup [.tup [.int 1, .int 1], .int 1]]], .tup [.int 0, .tup [.tup [.tup [.int 1, .int 1], .int 1], .tup [.tup [.int 1, .int 2], .int 1]]]]
abbrev tru (n : Nat) : List D := List.replicate n (.bl true)
abbrev fls (n : Nat) : List D := List.replicate n (.bl false)
theorem isc_list {C : CallF} (h : ∀ v, sh 59 v = true → C (Str.ofString "is_contract") [] [v] = .ok (.v (.bl (isC v)), [])) (xs : List D) (hx : ∀ v ∈ xs, sh 59 v = true) {s0 s1 s2 s3 s4 s5 s6 s7 s8 : Sl} :
    ∃ t6, loopC (turnC C (.nm 6) .none (.call (Str.ofString "is_contract") (.cons (.var 6) .nil)) [6]) xs [s0, s1, s2, s3, s4, s5, s6, s7, s8] [] = .ok (xs.map fun v => .bl (isC v), [s0, s1, s2, s3, s4, s5, t6, s7, s8]) := by
  obtain ⟨env, e1, t, rfl⟩ := loopC_map (t := turnC C (.nm 6) .none (.call (Str.ofString "is_contract") (.cons (.var 6) .nil)) [6]) (f := fun x : D => x) (g := fun v => .bl (isC v)) (I := fun env => ∃ t, env = [s0, s1, s2, s3, s4, s5, t, s7, s8]) xs [s0, s1, s2, s3, s4, s5, s6, s7, s8] [] ⟨_, rfl⟩ (by
    rintro x hx' env ⟨t, rfl⟩
    have := h x (hx x hx')
    exact ⟨[s0, s1, s2, s3, s4, s5, .fz x, s7, s8], by simp [this, rd_s], ⟨_, rfl⟩⟩)
  rw [List.map_id', List.nil_append] at e1
  exact ⟨t, e1⟩
theorem isp_list {C : CallF} (h : ∀ v, sh 59 v = true → PerSm v → C (Str.ofString "is_person") [] [v] = .ok (.v (.bl (perB v)), [])) (xs : List D) (hx : ∀ v ∈ xs, sh 59 v = true ∧ PerSm v) {s0 s1 s2 s3 s4 s5 s6 s7 s8 : Sl} :
    ∃ t6, loopC (turnC C (.nm 6) .none (.call (Str.ofString "is_person") (.cons (.var 6) .nil)) [6]) xs [s0, s1, s2, s3, s4, s5, s6, s7, s8] [] = .ok (xs.map fun v => .bl (perB v), [s0, s1, s2, s3, s4, s5, t6, s7, s8]) := by
  obtain ⟨env, e1, t, rfl⟩ := loopC_map (t := turnC C (.nm 6) .none (.call (Str.ofString "is_person") (.cons (.var 6) .nil)) [6]) (f := fun x : D => x) (g := fun v => .bl (perB v)) (I := fun env => ∃ t, env = [s0, s1, s2, s3, s4, s5, t, s7, s8]) xs [s0, s1, s2, s3, s4, s5, s6, s7, s8] [] ⟨_, rfl⟩ (by
    rintro x hx' env ⟨t, rfl⟩
    have := h x (hx x hx').1 (hx x hx').2
    exact ⟨[s0, s1, s2, s3, s4, s5, .fz x, s7, s8], by simp [this, rd_s], ⟨_, rfl⟩⟩)
  rw [List.map_id', List.nil_append] at e1
  exact ⟨t, e1⟩
theorem pw60 : bin2 .pow (.int 10) (.int 60) = .ok (.v (.int (10 ^ 60))) := rfl
theorem people_vd : ∀ v ∈ lisP ++ lisQ, vd (2 ^ 200) 10 3 4 v = true := by
  have : vds (2 ^ 200) 10 3 4 (lisP ++ lisQ) = true := by decide +kernel
  exact vds_all.mp this
theorem people_ok : ∀ v ∈ lisP ++ lisQ, sh 59 v = true ∧ PerSm v := fun v hv =>
  ⟨sh_mono (by omega) (vd_sh (people_vd v hv)), perSm_of (people_vd v hv) (Nat.one_le_two_pow) (Nat.pow_lt_pow_right (by decide) (by decide)) (by rw [← Nat.pow_mul]; exact Nat.pow_lt_pow_right (by decide) (by decide)) (by decide)⟩
theorem people_is : (lisP ++ lisQ).map (fun v => D.bl (perB v)) = tru 3 ++ fls 8 := by
  have : (lisP ++ lisQ).map perB = [true, true, true, false, false, false, false, false, false, false, false] := by decide +kernel
  have e : (lisP ++ lisQ).map (fun v => D.bl (perB v)) = ((lisP ++ lisQ).map perB).map D.bl := by rw [List.map_map]; rfl
  rw [e, this]
  rfl
theorem con_sh : ∀ v ∈ (lisA one).tail ++ (lisB one).tail ++ lisC ++ [many, dr [.tup [.int 1, many], .tup [.int 1, one]]], sh 40 v = true := by
  have : shs 40 ((lisA one).tail ++ (lisB one).tail ++ lisC ++ [many, dr [.tup [.int 1, many], .tup [.int 1, one]]]) = true := by decide +kernel
  exact shs_all.mp this
theorem con_is : ((lisA one).tail ++ (lisB one).tail ++ lisC ++ [many, dr [.tup [.int 1, many], .tup [.int 1, one]]]).map isC = [true, true, true, true, false, false, false, false, false, false, false, false, false, false, true, false] := by decide +kernel
theorem law_pure (ns : List Int) (hl : ns.length ≤ 63) : call T lvl (PySem.Str.ofString "law") [] [.frz ns] = .ok (.v (.bl true), []) := by
  rw [show lvl = 59 + 1 from rfl, call_of T_law]
  obtain ⟨d6, dc6, ds6, di6⟩ := deep_ok 58 6 (by omega) (by omega)
  obtain ⟨d7, dc7, ds7, di7⟩ := deep_ok 58 7 (by omega) (by omega)
  rw [show (58 + 1 : Nat) = 59 from rfl, show ((6 : Nat) : Int) = 6 from rfl] at dc6
  rw [show (58 + 1 : Nat) = 59 from rfl, show ((7 : Nat) : Int) = 7 from rfl] at dc7
  have hisc := fun (v : D) (hv : sh 59 v = true) => isc_call 47 hv
  have hisp := fun (v : D) (hv : sh 59 v = true) (hp : PerSm v) => isp_call 52 hv hp
  simp only [show (47 + 12 : Nat) = 59 from rfl] at hisc
  simp only [show (52 + 7 : Nat) = 59 from rfl] at hisp
  obtain ⟨b, hb, b0, b1⟩ : ∃ b : Int, (if (6 : Int) < (if (ns.length : Int) < 14 then (ns.length : Int) else 14) then (if (ns.length : Int) < 14 then (ns.length : Int) else 14) else 6) = b ∧ 0 ≤ b ∧ b < 1000 := ⟨_, rfl, by split <;> (try split) <;> omega, by split <;> (try split) <;> omega⟩
  have hlo := fun (d : D) (j : Int) (hd : d = .int j) h0 h1 s1 s5 s6 s7 s8 h6 => outer_ok (ns := ns) (d := d) (j := j) hd h0 h1 (s1 := s1) (s5 := s5) (s6 := s6) (s7 := s7) (s8 := s8) h6
  obtain ⟨env, e1, s1, s5, s6, s7, s8, hs6, rfl⟩ := forL_invN (b := turn (call T 59) (.nm 1) outer) (I := fun _ env => ∃ s1 s5 s6 s7 s8, (s6 = .un ∨ ∃ d, s6 = .fz d) ∧ env = [.fz (.frz ns), s1, .un, .un, .un, s5, s6, s7, s8])
    (rangeD 0 b.toNat) 0 [.fz (.frz ns), .un, .un, .un, .un, .un, .un, .un, .un] ⟨_, _, _, _, _, .inl rfl, rfl⟩ (by
      rintro m d env hd _ ⟨s1, s5, s6, s7, s8, hs6, rfl⟩
      obtain ⟨j, hj, j0, j1⟩ := mem_rangeD _ _ hd
      obtain ⟨t5, t6, t7, t8, ht6, e⟩ := hlo d j hj j0 (by omega) s1 s5 s6 s7 s8 hs6
      exact ⟨_, e, _, _, _, _, _, ht6, rfl⟩)
  have hr := rOk_small b0 (by omega)
  have all16 : ∀ v ∈ lisA d6 ++ lisB d7 ++ lisC, sh 59 v = true := fun v hv => by
    simp only [List.mem_append, List.mem_cons, List.not_mem_nil, or_false] at hv
    have cs := con_sh
    simp only [List.tail_cons, List.mem_append, List.mem_cons, List.not_mem_nil, or_false] at cs
    rcases hv with ((rfl | hv) | (rfl | hv)) | hv
    · exact sh_mono (by omega) ds6
    · exact sh_mono (by omega) (cs v (by simp [hv]))
    · exact sh_mono (by omega) ds7
    · exact sh_mono (by omega) (cs v (by simp [hv]))
    · exact sh_mono (by omega) (cs v (by simp [hv]))
  have is16 : (lisA d6 ++ lisB d7 ++ lisC).map (fun v => D.bl (isC v)) = tru 5 ++ fls 11 := by
    have ci := con_is
    simp only [List.tail_cons, List.cons_append, List.nil_append, List.map_cons, List.map_nil, List.cons.injEq, and_true] at ci
    have h6 : isC d6 = true := di6
    have h7 : isC d7 = false := di7
    simp [lisA, lisB, lisC, h6, h7, ci, tru, fls, List.replicate]
  have im : isC many = true := by decide +kernel
  have im2 : isC (dr [.tup [.int 1, many], .tup [.int 1, one]]) = false := by decide +kernel
  have hm := hisc many (by decide +kernel)
  have hm2 := hisc (dr [.tup [.int 1, many], .tup [.int 1, one]]) (by decide +kernel)
  rw [im] at hm
  rw [im2] at hm2
  obtain ⟨t6, c1⟩ := isc_list (C := call T 59) hisc (lisA d6 ++ lisB d7 ++ lisC) all16 (s0 := .fz (.frz ns)) (s1 := s1) (s2 := .fz one) (s3 := .fz (.lst (lisA d6 ++ lisB d7 ++ lisC))) (s4 := .un) (s5 := s5) (s6 := s6) (s7 := s7) (s8 := s8)
  obtain ⟨t6', c2⟩ := isp_list (C := call T 59) hisp (lisP ++ lisQ) people_ok (s0 := .fz (.frz ns)) (s1 := s1) (s2 := .fz one) (s3 := .fz (.lst (lisP ++ lisQ))) (s4 := .fz many) (s5 := s5) (s6 := s6) (s7 := s7) (s8 := s8)
  rw [is16] at c1
  rw [people_is] at c2
  have q1 : cmp2 .ne (.lst (tru 5 ++ fls 11)) (.lst (tru 5 ++ fls 11)) = .ok false := ne_self (by decide +kernel)
  have q2 : cmp2 .eq (.lst (tru 3 ++ fls 8)) (.lst (tru 3 ++ fls 8)) = .ok true := by rw [cmp_eq (by decide +kernel) (by decide +kernel), dq_refl _ 60 (by decide +kernel)]
  have hno : noOwn [.fz (.frz ns), s1, .fz one, .fz (.lst (lisA d6 ++ lisB d7 ++ lisC)), .un, s5, s6, s7, s8] [6] = true := by
    rcases hs6 with rfl | ⟨d, rfl⟩ <;> rfl
  have hno2 : noOwn [.fz (.frz ns), s1, .fz one, .fz (.lst (lisP ++ lisQ)), .fz many, s5, s6, s7, s8] [6] = true := by
    rcases hs6 with rfl | ⟨d, rfl⟩ <;> rfl
  have m1 : bin2 .mul (.tup [.tup [.int 12, one]]) (.int 4) = .ok (.v (.tup [.tup [.int 12, one], .tup [.int 12, one], .tup [.int 12, one], .tup [.int 12, one]])) := rfl
  have m2 : bin2 .mul (.tup [.tup [.int 1, one]]) (.int 5) = .ok (.v (.tup [.tup [.int 1, one], .tup [.int 1, one], .tup [.int 1, one], .tup [.int 1, one], .tup [.int 1, one]])) := rfl
  have m3 : bin2 .mul (.tup [.tup [.int 1, one]]) (.int 4) = .ok (.v (.tup [.tup [.int 1, one], .tup [.int 1, one], .tup [.int 1, one], .tup [.int 1, one]])) := rfl
  have m4 : bin2 .mul (.tup [.tup [.int 1, four]]) (.int 3) = .ok (.v (.tup [.tup [.int 1, four], .tup [.int 1, four], .tup [.int 1, four]])) := rfl
  have l5 : bin2 .mul (.lst [.bl true]) (.int 5) = .ok (.o (tru 5)) := rfl
  have l11 : bin2 .mul (.lst [.bl false]) (.int 11) = .ok (.o (fls 11)) := rfl
  have l3 : bin2 .mul (.lst [.bl true]) (.int 3) = .ok (.o (tru 3)) := rfl
  have l8 : bin2 .mul (.lst [.bl false]) (.int 8) = .ok (.o (fls 8)) := rfl
  have a1 : bin2 .add (.lst (lisA d6)) (.lst (lisB d7)) = .ok (.o (lisA d6 ++ lisB d7)) := addL (by simp)
  have a2 : bin2 .add (.lst (lisA d6 ++ lisB d7)) (.lst lisC) = .ok (.o (lisA d6 ++ lisB d7 ++ lisC)) := addL (by simp)
  have a3 : bin2 .add (.lst lisP) (.lst lisQ) = .ok (.o (lisP ++ lisQ)) := addL (by simp)
  have a4 : bin2 .add (.lst (tru 5)) (.lst (fls 11)) = .ok (.o (tru 5 ++ fls 11)) := addL (by simp)
  have a5 : bin2 .add (.lst (tru 3)) (.lst (fls 8)) = .ok (.o (tru 3 ++ fls 8)) := addL (by simp)
  have i1 : cmp2 .isnot (.bl true) (.bl true) = .ok false := rfl
  have i2 : cmp2 .isnot (.bl false) (.bl false) = .ok false := rfl
  have pw := pw60
  generalize call T 59 = C at *
  clear hlo hisc hisp
  have p60 : ((10 : Int) ^ 60) = 1000000000000000000000000000000000000000000000000000000000000 := by decide
  simp only [lisA, lisB, lisC, lisP, lisQ, tru, fls, List.replicate, List.cons_append, List.nil_append, p60] at c1 c2 q1 q2 l5 l11 l3 l8 a1 a2 a3 a4 a5 hno hno2 pw
  unfold run m_law
  simp [MF.start, hb, hr, e1, rd_s, dc6, dc7, m1, m2, m3, m4, l5, l11, l3, l8, a1, a2, a3, a4, a5, i1, i2, pw, c1, c2, q1, q2, hno, hno2, hm, hm2, -turn_app, -turnC_app, -loopC_cons, -noOwn_nil]
end K01

end
section
set_option Elab.async false
set_option linter.all false
set_option maxRecDepth 100000
set_option maxHeartbeats 0
open PySem PySem.W PySem.Calls PyProof.Rows
theorem PySem.Challenge.cw_anycautious_k01_contracts_and_people_rec_holds : PySem.Challenge.rw_anycautious_k01_contracts_and_people_rec.Holds := by
  w_on; o_law
  refine HandSHeadRun.head_any (r := OpenLaw.row PySem.Challenge.rw_anycautious_k01_contracts_and_people_rec) (q := view (OpenLaw.row PySem.Challenge.rw_anycautious_k01_contracts_and_people_rec).prog [68]) (H := HK01.hk) (ob := HK01.ob) (M := 6000) (loose := HK01.loose) (d := HandSHeadRun.topDef (OpenLaw.row PySem.Challenge.rw_anycautious_k01_contracts_and_people_rec).prog 68) (kwd := []) HK01.ob_eq
    (by kernel_rfl) (fun s => by kernel_rfl) HK01.run (by kernel_rfl) (by kernel_rfl) (by kernel_rfl) (by rfl) (by first | assumption | decide +kernel) (by decide +kernel) ⟨rfl, rfl, rfl, rfl, rfl, by decide +kernel⟩ ?hw ?hc
  case hw => w_witness2
  case hc =>
    refine MP.walkX (l := PySem.Challenge.rw_anycautious_k01_contracts_and_people_rec) (n := 63) (k := 3 * K01.lvl) (x := (PySem.Str.ofString "script")) rfl (by decide) (by kernel_rfl) ⟨rfl, by decide, by decide⟩ ?F
    intro w mg fa h Y G hmg0
    obtain ⟨K, KX, c⟩ := Y
    have ok := HK01.all_ok KX G c
    have hmg : mg (PySem.Str.ofString "law") = some (.ref fa) := by
      have e : (HandSHeadRun.topDef (OpenLaw.row PySem.Challenge.rw_anycautious_k01_contracts_and_people_rec).prog 68).name = (PySem.Str.ofString "law") := by kernel_rfl
      rw [← e]
      exact hmg0
    have efa := hmg.symm.trans (HK01.mg_glo KX G c (x := (PySem.Str.ofString "law")) (by simp [HK01.fa, HK01.fa0, HK01.fa1, HK01.fa2, HK01.fa3]))
    cases efa
    obtain ⟨fd, dA⟩ := HK01.at_law KX G c
    have dA2 := dA
    obtain ⟨_, _, _, _, _, F, _, bb, _⟩ := dA2
    have cs_in : ∀ p ∈ HK01.tf.map (He.cT K), ∃ d ∈ HK01.tf, He.cT K d = p := fun p hp => List.mem_map.mp hp
    refine ⟨K, fd, HK01.tf.map (He.cT K), MP.spF K ((PySem.Challenge.rw_anycautious_k01_contracts_and_people_rec).prog, w, ⟨none, MP.tsOf K HK01.tf⟩) false 1 (MP.call K01.T K01.lvl (PySem.Str.ofString "law")), KX, fun p hp => ?_, fun p hp => ?_, fun p hp => ?_, fun s v => ?_, fun H a ns hl hb hT hS => MP.law_sp (fun t ht => ?_) hS (K01.law_pure ns hl), fun base _ _ hTB => ?_⟩
    · obtain ⟨d, hd, rfl⟩ := cs_in p hp; exact c.empty d hd
    · obtain ⟨d, hd, rfl⟩ := cs_in p hp; exact c.out d hd
    · obtain ⟨d, hd, rfl⟩ := cs_in p hp; exact PySem.W.codeHd_of_K KX (c.hd d hd)
    rotate_left
    · obtain ⟨d, hd, rfl⟩ := List.mem_map.mp ht
      exact hT _ (List.mem_map.mpr ⟨d, hd, rfl⟩)
    rotate_left
    · obtain ⟨fd2, F2⟩ := c.t.d.defs (d := HK01.d_law) (by simp [HK01.fn, HK01.fn0, HK01.fn1])
      have e2 := MP.fund_same F F2
      subst e2
      exact L2.FunD.bindsA (ps := [(PySem.Str.ofString "script")]) F2 (fun _ _ _ _ _ _ us hl => match us, hl with | [_], _ => rfl) s [v] rfl
    · exact MP.fnd_at ok (fun d hd => hTB _ (List.mem_map.mpr ⟨d, hd, rfl⟩)) (HK01.tf_ok c) K01.lvl (PySem.Str.ofString "law") K01.m_law fd [(PySem.Str.ofString "script")] K01.T_law dA

end
