import PyProof.Rows.All
import Wide.All
import OpenK.AllK
import Wide.FinOn
import HandS.ForMost
import HandS.ForExc
import HandS.Walk
import HandS.Evl
import HandS.Wide
import KE.SortData
import HandS.TupAny
import HandS.Rev
import HandS.Style
import HandS.Deep
import HandS.ForDict
import KE.KEqDict
import HandS.Flow
import HandS.IsInst
import HandS.SetFor
import KE.KIndexOf
import KE.KDictSum
import HandS.Conv
import HandS.ExcOwn
import KE.GoesEnum
import KE.GoesZip
import KE.GoesMore
import HandS.Iter
import HandS.DictComp
import HandS.WordsExc
import HandS.EndBits
import PySem.Challenge.RW_contralines_k07_whole_lines_with_the_sam
set_option Elab.async false
set_option linter.all false
set_option maxRecDepth 100000
set_option maxHeartbeats 4000000
/-! Iv0: code over slots, and what it computes: total functions over data. -/
namespace Iv
open PySem

abbrev D := PyData

/-- not by unfolding -/
theorem nr {α : Sort _} {a b : α} (h : a = b) : a = b := h
/-- a slot: nothing known; a value that stays; a list or dict that this slot alone holds -/
inductive Slot where
  | no | fz (d : D) | ow (d : D)
abbrev Env := List Slot

/-- what an expression gives: data; a new list or dict; the object that slot i owns; an argument list -/
inductive Rv where
  | d (d : D) | f (d : D) | o (i : Nat) | l (rs : List Rv)

inductive R (α : Type) where
  | ok (a : α) | er (x : Str) | no
/-- a result, then the rest -/
def R.bd {α β γ : Type} (r : R (α × β)) (k : α → β → R γ) : R γ := match r with
  | .ok p => k p.1 p.2
  | .er x => .er x
  | .no => .no
@[simp] theorem R.bd_ok {α β γ : Type} (a : α) (b : β) (k : α → β → R γ) : (R.ok (a, b)).bd k = k a b := nr rfl
@[simp] theorem R.bd_er {α β γ : Type} (x : Str) (k : α → β → R γ) : (R.er x : R (α × β)).bd k = .er x := nr rfl
@[simp] theorem R.bd_no {α β γ : Type} (k : α → β → R γ) : (R.no : R (α × β)).bd k = .no := nr rfl
def got {α γ : Type} (o : Option α) (k : α → R γ) : R γ := match o with
  | some a => k a
  | none => .no
@[simp] theorem got_some {α γ : Type} (a : α) (k : α → R γ) : got (some a) k = k a := nr rfl
@[simp] theorem got_none {α γ : Type} (k : α → R γ) : got none k = .no := nr rfl

/-- built-ins -/
inductive Bi where
  | len | sum | all | max1 | min1 | max2 | min2 | sorted | tuple | list | dict | int | bool | lenset | sortedset | lrange | lvals | svals
  | isint | isbool | istup | isstr | islist
  deriving DecidableEq
/-- methods that leave the object as it is -/
inductive Me where
  | index | get1 | get2
  deriving DecidableEq
/-- what is walked -/
inductive Wk where
  | seq | r1 | r2 | r3 | enum | zip | vals
  deriving DecidableEq
/-- targets: a name, names -/
inductive Tg where
  | n (i : Nat) | t (is : List Nat)

inductive C where
  | v (i : Nat) | k (d : D) | nil | cons (a r : C)
  | op (o : Operator) (a b : C) | neg (a : C)
  | cmp (o : CmpOp) (a b : C) | ch (o o' : CmpOp) (a b c : C) | invals (a b : C)
  | notv (a : C) | andv (a b : C) | orv (a b : C)
  | tr (a : C) | nott (a : C) | andt (a b : C) | ort (a b : C)
  | ife (t a b : C)
  | tup (es : C) | lst (es : C) | dic (ks vs : C)
  | ix (a i : C) | pt (a : C) | sl (a lo hi : C) | rev (a : C)
  | call (f : Nat) (es : C) | bi (b : Bi) (es : C) | me (m : Me) (a es : C)
  | popl (i : Nat) | popi (i : Nat) (e : C)
  | lc (own : List Nat) (elt : C) (tg : Tg) (w : Wk) (it : C) (ifs : C)
  | dc (own : List Nat) (key val : C) (tg : Tg) (w : Wk) (it : C)

/-- an own def: how many arguments; is the first one in-out; what it computes -/
inductive FR where
  | ok (d : D) (fr : Bool) | io (d : D) (fr : Bool) (b : D) | er (x : Str) | no
structure FI where
  n : Nat
  io : Bool
  sem : List D → FR
structure Ctx where
  fs : List FI
  fuel : Nat

/-! ### values -/
def big : Nat := 10000000
def fnD (x : Str) : D := .dict [(.none, .str x)]
/-- the script -/
def scrD (ns : List Int) : D := .dict [(.bool true, .list (ns.map .int))]

def truth : D → Option Bool
  | .none => some false
  | .bool b => some b
  | .int i => some (i != 0)
  | .str s => if s.length ≤ big then some (s.length != 0) else none
  | .list xs => some (!xs.isEmpty)
  | .tuple xs => some (!xs.isEmpty)
  | .dict _ => none

def binop : Operator → D → D → Option Rv
  | .Add, .int i, .int j => some (.d (.int (i + j)))
  | .Add, .str a, .str b => if a.length + b.length ≤ big then some (.d (.str (a ++ b))) else none
  | .Add, .list xs, .list ys => if xs.length + ys.length ≤ big then some (.f (.list (xs ++ ys))) else none
  | .Add, .tuple xs, .tuple ys => if xs.length + ys.length ≤ big then some (.d (.tuple (xs ++ ys))) else none
  | .Sub, .int i, .int j => some (.d (.int (i - j)))
  | .Mult, .int i, .int j => if i.natAbs < 2 ^ 1000 ∧ j.natAbs < 2 ^ 1000 then some (.d (.int (i * j))) else none
  | .Mult, .list xs, .int k => if 0 ≤ k ∧ k ≤ 1000 ∧ xs.length ≤ 1000 then some (.f (.list (List.replicate k.toNat xs).flatten)) else none
  | .FloorDiv, .int i, .int j => if 0 < j ∧ j.natAbs < 2 ^ 1000 then some (.d (.int (i / j))) else none
  | .Mod, .int i, .int j => if 0 < j then some (.d (.int (i % j))) else none
  | .Pow, .int i, .int j => if 0 ≤ j ∧ j ≤ 1000 ∧ i.natAbs < 2 ^ 64 then some (.d (.int (i ^ j.toNat))) else none
  | _, _, _ => none

def dval (kvs : List (D × D)) (k : D) : Option D := (kvs.find? fun kv => PyData.eqv kv.1 k).map (·.2)
def dput (kvs : List (D × D)) (k v : D) : List (D × D) :=
  if (kvs.any fun kv => PyData.eqv kv.1 k) = true then kvs.map fun kv => if PyData.eqv kv.1 k = true then (kv.1, v) else kv else kvs ++ [(k, v)]
/-- keys: a number, a text; a tuple of such -/
def key0 : D → Bool
  | .int _ => true
  | .str _ => true
  | _ => false
def key1 : D → Bool
  | .tuple xs => xs.all key0
  | _ => false

/-- the key is of the dict's kind -/
def keyOk (kvs : List (D × D)) (k : D) : Bool := (key0 k && kvs.all fun p => key0 p.1) || (key1 k && kvs.all fun p => key1 p.1)
def dkeys (kvs : List (D × D)) : Bool := (kvs.all fun p => key0 p.1) || (kvs.all fun p => key1 p.1)
def isNoneD : D → Bool
  | .none => true
  | _ => false
/-- two dicts with tuples as keys -/
def eqAtD (b : List (D × D)) (p : D × D) : Bool := match dval b p.1 with
  | some d => PyData.eqv p.2 d
  | none => false
def eqDict (a b : List (D × D)) : Bool := (a.length == b.length) && a.all (eqAtD b)
def okDict (a : List (D × D)) : Bool := a.all fun p => key1 p.1 && SeqAt.shaped p.2
def cmpop : CmpOp → D → D → Option Bool
  | .Eq, .dict a, .dict b => if okDict a = true ∧ okDict b = true then some (eqDict a b) else none
  | .Eq, a, b => if SeqAt.shaped a = true ∧ SeqAt.shaped b = true then some (PyData.eqv a b) else none
  | .NotEq, a, b => if SeqAt.shaped a = true ∧ SeqAt.shaped b = true then some (!PyData.eqv a b) else none
  | .Lt, .int i, .int j => some (decide (i < j))
  | .LtE, .int i, .int j => some (decide (i ≤ j))
  | .Gt, .int i, .int j => some (decide (j < i))
  | .GtE, .int i, .int j => some (decide (j ≤ i))
  | .Lt, .str i, .str j => some (decide (i.cps.toList < j.cps.toList))
  | .In, a, .list ds => if SeqAt.shaped a = true ∧ SeqAt.shaped (.list ds) = true then some (ds.any fun z => PyData.eqv z a) else none
  | .NotIn, a, .list ds => if SeqAt.shaped a = true ∧ SeqAt.shaped (.list ds) = true then some (!ds.any fun z => PyData.eqv z a) else none
  | .In, a, .tuple ds => if SeqAt.shaped a = true ∧ SeqAt.shaped (.tuple ds) = true then some (ds.any fun z => PyData.eqv z a) else none
  | .NotIn, a, .tuple ds => if SeqAt.shaped a = true ∧ SeqAt.shaped (.tuple ds) = true then some (!ds.any fun z => PyData.eqv z a) else none
  | .In, k, .dict kvs => if keyOk kvs k = true then some (dval kvs k).isSome else none
  | .NotIn, k, .dict kvs => if keyOk kvs k = true then some (!(dval kvs k).isSome) else none
  | .Is, a, .none => some (isNoneD a)
  | .IsNot, a, .none => some (!isNoneD a)
  | .Is, .bool a, .bool b => some (a == b)
  | _, _, _ => none

def atD (xs : List D) (i : Int) : Option D := L2.atI xs i
def index : D → D → Option Rv
  | .list xs, .int i => (L2.atI xs i).map .d
  | .tuple xs, .int i => (L2.atI xs i).map .d
  | .dict [(.bool true, .list ns)], .int i => (L2.atI ns i).map .d
  | .dict kvs, k => if keyOk kvs k = true then (dval kvs k).map .d else none
  | _, _ => none
def cutD (xs : List D) (lo hi : Option Int) : List D := (xs.drop (HT.sIx xs.length 0 lo)).take (HT.sIx xs.length xs.length hi - HT.sIx xs.length 0 lo)
/-- a slice's part: nothing (told by None), or a number -/
def part : D → Option (Option Int)
  | .none => some none
  | .int i => some (some i)
  | _ => none
def slice : D → D → D → Option Rv
  | .list xs, a, b => (part a).bind fun i => (part b).bind fun j => some (.f (.list (cutD xs i j)))
  | .tuple xs, a, b => (part a).bind fun i => (part b).bind fun j => some (.d (.tuple (cutD xs i j)))
  | _, _, _ => none
def reverse : D → Option Rv
  | .list xs => some (.f (.list xs.reverse))
  | .tuple xs => some (.d (.tuple xs.reverse))
  | _ => none

def intsD : List D → Option (List Int)
  | [] => some []
  | .int i :: r => (intsD r).map (i :: ·)
  | _ :: _ => none
def boolsD : List D → Option (List Bool)
  | [] => some []
  | .bool b :: r => (boolsD r).map (b :: ·)
  | _ :: _ => none
/-- numbers up -/
def sortI (ns : List Int) : List Int := ns.mergeSort (fun a b => decide (a ≤ b))
def insetI (ns : List Int) : List Int := ns.eraseDups
def leD (a b : D) : Bool := !PySem.W.dataLt b a
def sortD (ds : List D) : List D := ds.mergeSort leD
/-- all alike, as sorting asks -/
def alikeAll (ds : List D) : Bool := ds.all fun a => ds.all fun b => PySem.W.alike a b
def sortable (ds : List D) : Bool :=
  (ds.all fun d => match d with | .tuple (_ :: _) => true | _ => false) || (ds.all fun d => match d with | .none => false | .tuple _ => false | _ => true)
def sorts (ds : List D) : Option (List D) :=
  if alikeAll ds = true ∧ sortable ds = true ∧ ds.length ≤ big ∧ (ds.all SeqAt.shaped) = true then some (sortD ds) else none
def seqOf : D → Option (List D)
  | .list xs => some xs
  | .tuple xs => some xs
  | _ => none
def minD : List D → Option D
  | [] => none
  | x :: r => some (r.foldl (fun m y => if PySem.W.dataLt y m = true then y else m) x)

def fLen : D → Option Rv
  | .list xs => some (.d (.int xs.length))
  | .tuple xs => some (.d (.int xs.length))
  | .dict [(.bool true, .list ns)] => some (.d (.int ns.length))
  | .str x => if x.length ≤ big then some (.d (.int x.length)) else none
  | _ => none
def fSum : D → Option Rv
  | .list xs => (intsD xs).bind fun ns => some (.d (.int ns.sum))
  | _ => none
def fAll : D → Option Rv
  | .list xs => (boolsD xs).bind fun bs => some (.d (.bool (bs.all id)))
  | _ => none
def fMax1 : D → Option Rv
  | .list xs => (intsD xs).bind fun ns => match ns with
    | [] => none
    | n :: r => some (.d (.int (r.foldl max n)))
  | _ => none
def fMin1 : D → Option Rv
  | .list xs => if alikeAll xs = true ∧ xs.length ≤ big ∧ xs.all SeqAt.shaped = true then (minD xs).map .d else none
  | _ => none
def fMax2 : D → D → Option Rv
  | .int i, .int j => some (.d (.int (if j > i then j else i)))
  | _, _ => none
def fMin2 : D → D → Option Rv
  | .int i, .int j => some (.d (.int (if j < i then j else i)))
  | _, _ => none
/-- what is gone through: items; a dict's keys -/
def itemsOf : D → Option (List D)
  | .dict kvs => if dkeys kvs = true then some (kvs.map (·.1)) else none
  | d => seqOf d
def fSorted (d : D) : Option Rv := (itemsOf d).bind fun xs => (sorts xs).bind fun ys => some (.f (.list ys))
def fTuple (d : D) : Option Rv := (seqOf d).bind fun xs => some (.d (.tuple xs))
def fList (d : D) : Option Rv := (seqOf d).bind fun xs => some (.f (.list xs))
def fDict : D → Option Rv
  | .dict kvs => some (.f (.dict kvs))
  | _ => none
def fInt : D → Option Rv
  | .int i => some (.d (.int i))
  | .bool b => some (.d (.int (if b then 1 else 0)))
  | _ => none
def fBool (d : D) : Option Rv := (truth d).bind fun b => some (.d (.bool b))
/-- each once -/
def ddp : List Int → List Int
  | [] => []
  | x :: r => if x ∈ r then ddp r else x :: ddp r
def fLenset (d : D) : Option Rv := (seqOf d).bind fun xs => (intsD xs).bind fun ns => if ns.length ≤ 4000 then some (.d (.int ((ddp ns).length : Nat))) else none
def fLrange : D → Option Rv
  | .int n => if 0 ≤ n ∧ n ≤ big then some (.f (.list ((List.range n.toNat).map fun (i : Nat) => .int (i : Int)))) else none
  | _ => none
def fLvals : D → Option Rv
  | .dict kvs => some (.f (.list (kvs.map (·.2))))
  | _ => none
def fSvals : D → Option Rv
  | .dict kvs => (sorts (kvs.map (·.2))).bind fun ys => some (.f (.list ys))
  | _ => none
def tyD : D → Option String
  | .none => some "NoneType"
  | .bool _ => some "bool"
  | .int _ => some "int"
  | .str _ => some "str"
  | .list _ => some "list"
  | .tuple _ => some "tuple"
  | .dict _ => none
def fIs (T : String) (d : D) : Option Rv := (tyD d).bind fun t => some (.d (.bool (t == T || (T == "int" && t == "bool"))))
def un1 (f : D → Option Rv) : List D → Option Rv
  | [d] => f d
  | _ => none
def un2 (f : D → D → Option Rv) : List D → Option Rv
  | [d, e] => f d e
  | _ => none
def builtin : Bi → List D → Option Rv
  | .len => un1 fLen
  | .sum => un1 fSum
  | .all => un1 fAll
  | .max1 => un1 fMax1
  | .min1 => un1 fMin1
  | .max2 => un2 fMax2
  | .min2 => un2 fMin2
  | .sorted => un1 fSorted
  | .tuple => un1 fTuple
  | .list => un1 fList
  | .dict => un1 fDict
  | .int => un1 fInt
  | .bool => un1 fBool
  | .lenset => un1 fLenset
  | .sortedset => fun _ => none
  | .lrange => un1 fLrange
  | .lvals => un1 fLvals
  | .svals => un1 fSvals
  | .isint => un1 (fIs "int")
  | .isbool => un1 (fIs "bool")
  | .istup => un1 (fIs "tuple")
  | .isstr => un1 (fIs "str")
  | .islist => un1 (fIs "list")

def strsD : List D → Option (List Str)
  | [] => some []
  | .str b :: r => (strsD r).map (b :: ·)
  | _ :: _ => none
def method : Me → D → List D → Option Rv
  | .index, d, [.int k] => (seqOf d).bind fun xs => (intsD xs).bind fun ns => if k ∈ ns then some (.d (.int (ns.idxOf k : Nat))) else none
  | .index, d, [.str k] => (seqOf d).bind fun xs => (strsD xs).bind fun ns => if k ∈ ns then some (.d (.int (ns.idxOf k : Nat))) else none
  | .get1, .dict kvs, [k] => if keyOk kvs k = true then some (.d ((dval kvs k).getD .none)) else none
  | .get2, .dict kvs, [k, x] => if keyOk kvs k = true then some (.d ((dval kvs k).getD x)) else none
  | _, _, _ => none

def kind : D → Nat
  | .list _ => 1
  | .tuple _ => 2
  | .dict _ => 3
  | _ => 0
def meOk : Me → D → Bool
  | .index, .list _ => true
  | .index, .tuple _ => true
  | .get1, .dict kvs => dkeys kvs
  | .get2, .dict kvs => dkeys kvs
  | _, _ => false

/-- the turns of a walk -/
def enumD : Nat → List D → List D
  | _, [] => []
  | i, x :: r => .tuple [.int i, x] :: enumD (i + 1) r
def rangeD (lo : Int) (n : Nat) : List D := (List.range n).map fun (i : Nat) => .int (lo + i)
def rangeC (lo c : Int) (n : Nat) : List D := (List.range n).map fun (i : Nat) => .int (lo + i * c)
def stepN (a b c : Int) : Nat := if a < b then ((b - a - 1) / c + 1).toNat else 0
def smallI (i : Int) : Bool := decide (-(2 ^ 62) < i) && decide (i < 2 ^ 62)
def walked : Wk → List D → Option (List D)
  | .seq, [.list xs] => some xs
  | .seq, [.tuple xs] => some xs
  | .r1, [.int n] => if smallI n = true then some (rangeD 0 n.toNat) else none
  | .r2, [.int a, .int b] => if smallI a = true ∧ smallI b = true then some (rangeD a (b - a).toNat) else none
  | .r3, [.int a, .int b, .int c] => if smallI a = true ∧ smallI b = true ∧ 0 < c ∧ c < 1000 then some (rangeC a c (stepN a b c)) else none
  | .enum, [.list xs] => some (enumD 0 xs)
  | .enum, [.tuple xs] => some (enumD 0 xs)
  | .zip, [a, b] => (seqOf a).bind fun xs => (seqOf b).bind fun ys => some (List.zipWith (fun x y => .tuple [x, y]) xs ys)
  | _, _ => none

/-! ### slots -/
def get (ρ : Env) (i : Nat) : Slot := ρ.getD i .no
/-- read: the content as it stands -/
def read (ρ : Env) : Rv → Option D
  | .d d => some d
  | .f d => some d
  | .o i => match get ρ i with | .ow d => some d | .fz d => some d | .no => none
  | .l _ => none
/-- let go: an owned object stays as it is from now on -/
def esc (ρ : Env) : Rv → Option (D × Env)
  | .d d => some (d, ρ)
  | .f d => some (d, ρ)
  | .o i => match get ρ i with | .ow d => some (d, ρ.set i (.fz d)) | .fz d => some (d, ρ) | .no => none
  | .l _ => none
def reads (ρ : Env) : List Rv → Option (List D)
  | [] => some []
  | r :: rs => (read ρ r).bind fun d => (reads ρ rs).bind fun ds => some (d :: ds)
def escs (ρ : Env) : List Rv → Option (List D × Env)
  | [] => some ([], ρ)
  | r :: rs => (esc ρ r).bind fun p => (escs p.2 rs).bind fun q => some (p.1 :: q.1, q.2)
def setAll (ρ : Env) : List Nat → List D → Option Env
  | [], [] => some ρ
  | i :: is, d :: ds => setAll (ρ.set i (.fz d)) is ds
  | _, _ => none
def bindT (ρ : Env) : Tg → D → Option Env
  | .n i, d => some (ρ.set i (.fz d))
  | .t is, .tuple ds => setAll ρ is ds
  | .t _, _ => none
def wipeE (ρ : Env) (is : List Nat) : Env := is.foldl (fun r i => r.set i .no) ρ
def backE (ρ ρ0 : Env) (is : List Nat) : Env := is.foldl (fun r i => r.set i (get ρ0 i)) ρ
/-- the slots that are lent to a walk -/
def lent : List Rv → List Nat
  | [] => []
  | .o i :: r => i :: lent r
  | _ :: r => lent r

/-! ### expressions -/
def listOf : Rv → Option (List Rv)
  | .l rs => some rs
  | _ => none
def boolOf (ρ : Env) (r : Rv) : Option Bool := match read ρ r with | some (.bool b) => some b | _ => none
/-- a comprehension's turns -/
def lcGo (test : Env → R (Rv × Env)) (elt : Env → R (Rv × Env)) (tg : Tg) (own : List Nat) : List D → Env → List D → R (List D × Env)
  | [], ρ, acc => .ok (acc.reverse, ρ)
  | x :: xs, ρ, acc =>
    got (bindT ρ tg x) fun ρ1 =>
    (test ρ1).bd fun b ρ2 =>
    got (boolOf ρ2 b) fun
    | true =>
      (elt ρ2).bd fun y ρ3 =>
      got (esc ρ3 y) fun p =>
      lcGo test elt tg own xs (wipeE p.2 own) (p.1 :: acc)
    | false => lcGo test elt tg own xs (wipeE ρ2 own) acc
def dcGo (key : Env → R (Rv × Env)) (val : Env → R (Rv × Env)) (tg : Tg) (own : List Nat) : List D → Env → List (D × D) → R (List (D × D) × Env)
  | [], ρ, acc => .ok (acc, ρ)
  | x :: xs, ρ, acc =>
    got (bindT ρ tg x) fun ρ1 =>
    (key ρ1).bd fun k ρ2 =>
    got (esc ρ2 k) fun p =>
    (val p.2).bd fun v ρ4 =>
    got (esc ρ4 v) fun q =>
    if key0 p.1 = true then dcGo key val tg own xs (wipeE q.2 own) (dput acc p.1 q.1) else .no
def noEr {α : Type} : R α → R α
  | .ok a => .ok a
  | .er _ => .no
  | .no => .no

/-- what a def gave, taken over -/
def gave (fr : FR) (ρ : Env) : R (Rv × Env) := match fr with
  | .ok d true => .ok (.f d, ρ)
  | .ok d false => .ok (.d d, ρ)
  | .er x => .er x
  | _ => .no
def gaveIo (fr : FR) (i : Nat) (ρ : Env) : R (Rv × Env) := match fr with
  | .io d true b => .ok (.f d, ρ.set i (.ow b))
  | .io d false b => .ok (.d d, ρ.set i (.ow b))
  | _ => .no
def owOf : Slot → Option D
  | .ow d => some d
  | _ => none
def headO : List Rv → Option (Nat × List Rv)
  | .o i :: rs => some (i, rs)
  | _ => none
def callF (cx : Ctx) (f : Nat) (rs : List Rv) (ρ : Env) : R (Rv × Env) :=
  got cx.fs[f]? fun fi => match fi.io with
  | false => got (escs ρ rs) fun p => gave (fi.sem p.1) p.2
  | true => got (headO rs) fun h => got (escs ρ h.2) fun p => got (owOf (get p.2 h.1)) fun b => gaveIo (fi.sem (b :: p.1)) h.1 p.2

def intOf : D → Option Int
  | .int i => some i
  | _ => none
def dictOf : D → Option (List (D × D))
  | .dict kvs => some kvs
  | _ => none
def lstOf : Slot → Option (List D)
  | .ow (.list xs) => some xs
  | _ => none
def one {α : Type} : List α → Option α
  | [a] => some a
  | _ => none
/-- a display of a dict: none or one pair -/
def dict1 (ks vs : List Rv) (ρ : Env) : R (Rv × Env) :=
  match ks, vs with
  | [], [] => .ok (.f (.dict []), ρ)
  | [k], [v] => got (esc ρ k) fun p => got (esc p.2 v) fun q => if key0 p.1 = true ∨ key1 p.1 = true then .ok (.f (.dict [(p.1, q.1)]), q.2) else .no
  | _, _ => .no

def ev (cx : Ctx) : C → Env → R (Rv × Env)
  | .v i, ρ => match get ρ i with | .fz d => .ok (.d d, ρ) | .ow _ => .ok (.o i, ρ) | .no => .no
  | .k d, ρ => .ok (.d d, ρ)
  | .nil, ρ => .ok (.l [], ρ)
  | .cons a r, ρ => (ev cx a ρ).bd fun x ρ1 => (ev cx r ρ1).bd fun y ρ2 => got (listOf y) fun ys => .ok (.l (x :: ys), ρ2)
  | .op o a b, ρ => (ev cx a ρ).bd fun x ρ1 => (ev cx b ρ1).bd fun y ρ2 => got (read ρ2 x) fun dx => got (read ρ2 y) fun dy => got (binop o dx dy) fun z => .ok (z, ρ2)
  | .neg a, ρ => (ev cx a ρ).bd fun x ρ1 => got (read ρ1 x) fun d => got (intOf d) fun i => .ok (.d (.int (-i)), ρ1)
  | .cmp o a b, ρ => (ev cx a ρ).bd fun x ρ1 => (ev cx b ρ1).bd fun y ρ2 => got (read ρ2 x) fun dx => got (read ρ2 y) fun dy => got (cmpop o dx dy) fun z => .ok (.d (.bool z), ρ2)
  | .invals a b, ρ => (ev cx a ρ).bd fun x ρ1 => (ev cx b ρ1).bd fun y ρ2 => got (read ρ2 x) fun dx => got (read ρ2 y) fun dy =>
      got (intOf dx) fun i => got (dictOf dy) fun kvs => got (intsD (kvs.map (·.2))) fun ns => .ok (.d (.bool (decide (i ∈ ns))), ρ2)
  | .ch o o' a b c, ρ => (ev cx a ρ).bd fun x ρ1 => (ev cx b ρ1).bd fun y ρ2 => got (read ρ2 x) fun dx => got (read ρ2 y) fun dy => got (cmpop o dx dy) fun
      | false => .ok (.d (.bool false), ρ2)
      | true => (ev cx c ρ2).bd fun z ρ3 => got (read ρ3 y) fun dy => got (read ρ3 z) fun dz => got (cmpop o' dy dz) fun t => .ok (.d (.bool t), ρ3)
  | .notv a, ρ => (ev cx a ρ).bd fun x ρ1 => got (read ρ1 x) fun d => got (truth d) fun b => .ok (.d (.bool (!b)), ρ1)
  | .andv a b, ρ => (ev cx a ρ).bd fun x ρ1 => got (boolOf ρ1 x) fun
      | true => ev cx b ρ1
      | false => .ok (.d (.bool false), ρ1)
  | .orv a b, ρ => (ev cx a ρ).bd fun x ρ1 => got (boolOf ρ1 x) fun
      | true => .ok (.d (.bool true), ρ1)
      | false => ev cx b ρ1
  | .tr a, ρ => (ev cx a ρ).bd fun x ρ1 => got (read ρ1 x) fun d => got (truth d) fun b => .ok (.d (.bool b), ρ1)
  | .nott a, ρ => (ev cx a ρ).bd fun x ρ1 => got (boolOf ρ1 x) fun b => .ok (.d (.bool (!b)), ρ1)
  | .andt a b, ρ => (ev cx a ρ).bd fun x ρ1 => got (boolOf ρ1 x) fun
      | true => ev cx b ρ1
      | false => .ok (.d (.bool false), ρ1)
  | .ort a b, ρ => (ev cx a ρ).bd fun x ρ1 => got (boolOf ρ1 x) fun
      | true => .ok (.d (.bool true), ρ1)
      | false => ev cx b ρ1
  | .ife t a b, ρ => (ev cx t ρ).bd fun x ρ1 => got (boolOf ρ1 x) fun
      | true => ev cx a ρ1
      | false => ev cx b ρ1
  | .tup es, ρ => (ev cx es ρ).bd fun x ρ1 => got (listOf x) fun rs => got (escs ρ1 rs) fun p => if p.1.length ≤ big then .ok (.d (.tuple p.1), p.2) else .no
  | .lst es, ρ => (ev cx es ρ).bd fun x ρ1 => got (listOf x) fun rs => got (escs ρ1 rs) fun p => if p.1.length ≤ big then .ok (.f (.list p.1), p.2) else .no
  | .dic ks vs, ρ => (ev cx ks ρ).bd fun x ρ1 => (ev cx vs ρ1).bd fun y ρ2 => got (listOf x) fun xs => got (listOf y) fun ys => dict1 xs ys ρ2
  | .ix a i, ρ => (ev cx a ρ).bd fun x ρ1 => (ev cx i ρ1).bd fun y ρ2 => got (read ρ2 x) fun dx => got (read ρ2 y) fun dy => got (index dx dy) fun z => .ok (z, ρ2)
  | .pt a, ρ => (ev cx a ρ).bd fun x ρ1 => got (read ρ1 x) fun d => got (intOf d) fun i => .ok (.d (.int i), ρ1)
  | .sl a lo hi, ρ => (ev cx a ρ).bd fun x ρ1 => (ev cx lo ρ1).bd fun y ρ2 => (ev cx hi ρ2).bd fun z ρ3 =>
      got (read ρ3 x) fun dx => got (read ρ3 y) fun dy => got (read ρ3 z) fun dz => got (slice dx dy dz) fun r => .ok (r, ρ3)
  | .rev a, ρ => (ev cx a ρ).bd fun x ρ1 => got (read ρ1 x) fun d => got (reverse d) fun r => .ok (r, ρ1)
  | .call f es, ρ => (ev cx es ρ).bd fun x ρ1 => got (listOf x) fun rs => callF cx f rs ρ1
  | .bi b es, ρ => (ev cx es ρ).bd fun x ρ1 => got (listOf x) fun rs => got (reads ρ1 rs) fun ds => got (builtin b ds) fun z => .ok (z, ρ1)
  | .me m a es, ρ => (ev cx a ρ).bd fun x ρ1 => got (read ρ1 x) fun d0 => if meOk m d0 = true then
      (ev cx es ρ1).bd fun y ρ2 => got (listOf y) fun rs => got (escs ρ2 rs) fun p => got (read p.2 x) fun d => if kind d = kind d0 then got (method m d p.1) fun z => .ok (z, p.2) else .no
      else .no
  | .popl i, ρ => got (lstOf (get ρ i)) fun xs => got xs.getLast? fun y => .ok (.d y, ρ.set i (.ow (.list xs.dropLast)))
  | .popi i e, ρ => got (lstOf (get ρ i)) fun _ => (ev cx e ρ).bd fun y ρ1 => got (read ρ1 y) fun d => got (intOf d) fun k => got (lstOf (get ρ1 i)) fun xs =>
      if 0 ≤ k ∧ k < 2 ^ 62 then got xs[k.toNat]? fun z => .ok (.d z, ρ1.set i (.ow (.list (xs.eraseIdx k.toNat)))) else .no
  | .lc own elt tg w it ifs, ρ => (ev cx it ρ).bd fun x ρ1 => got (listOf x) fun rs => got (reads ρ1 rs) fun ds => got (walked w ds) fun items =>
      if items.length ≤ big then
        (noEr (lcGo (ev cx ifs) (ev cx elt) tg own items (wipeE (wipeE ρ1 (lent rs)) own) [])).bd fun ds ρ2 => .ok (.f (.list ds), backE (backE ρ2 ρ1 own) ρ1 (lent rs))
      else .no
  | .dc own key val tg w it, ρ => (ev cx it ρ).bd fun x ρ1 => got (listOf x) fun rs => got (reads ρ1 rs) fun ds => got (walked w ds) fun items =>
      if items.length ≤ big then
        (noEr (dcGo (ev cx key) (ev cx val) tg own items (wipeE (wipeE ρ1 (lent rs)) own) [])).bd fun kvs ρ2 => .ok (.f (.dict kvs), backE (backE ρ2 ρ1 own) ρ1 (lent rs))
      else .no

/-! ### statements -/
inductive S where
  | nil | seq (s r : S)
  | asg (i : Nat) (e : C) | asgT (is : List Nat) (e : C) | par (is : List Nat) (es : C)
  | set (a : Nat) (ix e : C) | set2 (a : Nat) (i j : C) (es : C)
  | aug (i : Nat) (o : Operator) (e : C)
  | app (i : Nat) (e : C) | upd (i : Nat) (e : C)
  | exp (e : C) | ret (e : C) | retN
  | ife (t : C) (a b : S)
  | for (tg : Tg) (w : Wk) (it : C) (body : S)
  | whl (t : C) (body : S)
  | rse (x : Str)
  | tryx (body : S) (x : Str) (hand : S)
  | brk | cont | pass

inductive F where
  | nx (ρ : Env) | rt (d : D) (fr : Bool) (ρ : Env) | bk (ρ : Env) | ct (ρ : Env) | er (x : Str) | no
def F.seq (f : F) (k : Env → F) : F := match f with
  | .nx ρ => k ρ
  | f => f
@[simp] theorem F.seq_nx (ρ : Env) (k : Env → F) : (F.nx ρ).seq k = k ρ := nr rfl
@[simp] theorem F.seq_rt (d : D) (b : Bool) (ρ : Env) (k : Env → F) : (F.rt d b ρ).seq k = .rt d b ρ := nr rfl
@[simp] theorem F.seq_bk (ρ : Env) (k : Env → F) : (F.bk ρ).seq k = .bk ρ := nr rfl
@[simp] theorem F.seq_ct (ρ : Env) (k : Env → F) : (F.ct ρ).seq k = .ct ρ := nr rfl
@[simp] theorem F.seq_er (x : Str) (k : Env → F) : (F.er x).seq k = .er x := nr rfl
@[simp] theorem F.seq_no (k : Env → F) : F.no.seq k = .no := nr rfl
def lift {α β : Type} (r : R (α × β)) (k : α → β → F) : F := match r with
  | .ok p => k p.1 p.2
  | .er x => .er x
  | .no => .no
@[simp] theorem lift_ok {α β : Type} (a : α) (b : β) (k : α → β → F) : lift (.ok (a, b)) k = k a b := nr rfl
@[simp] theorem lift_er {α β : Type} (x : Str) (k : α → β → F) : lift (.er x) k = .er x := nr rfl
@[simp] theorem lift_no {α β : Type} (k : α → β → F) : lift .no k = .no := nr rfl
def lifo {α : Type} (r : Option α) (k : α → F) : F := match r with
  | some a => k a
  | none => .no
@[simp] theorem lifo_some {α : Type} (a : α) (k : α → F) : lifo (some a) k = k a := nr rfl
@[simp] theorem lifo_none {α : Type} (k : α → F) : lifo none k = .no := nr rfl

/-- the value into the slot: a new object is owned, an owned one let go -/
def store (i : Nat) (r : Rv) (ρ : Env) : Option Env := match r with
  | .d d => some (ρ.set i (.fz d))
  | .f d => some (ρ.set i (.ow d))
  | .o j => (esc ρ (.o j)).map fun p => p.2.set i (.fz p.1)
  | .l _ => none
def store1 (i : Nat) (r : Rv) (ρ : Env) : Option Env := match r with
  | .d d => some (ρ.set i (.fz d))
  | .f d => some (ρ.set i (.ow d))
  | _ => none
def stores : List Nat → List Rv → Env → Option Env
  | [], [], ρ => some ρ
  | i :: is, r :: rs, ρ => (store1 i r ρ).bind (stores is rs)
  | _, _, _ => none
def setItem : D → D → D → Option D
  | .list xs, .int k, v => if 0 ≤ k ∧ k < xs.length then some (.list (xs.set k.toNat v)) else none
  | .dict kvs, k, v => if keyOk kvs k = true ∧ kvs.length < big then some (.dict (dput kvs k v)) else none
  | _, _, _ => none
/-- slot a's item, the place given by ix, becomes v -/
def subGo (ix : Env → R (Rv × Env)) (a : Nat) (v : D) (ρ : Env) (k : Env → F) : F := lifo (owOf (get ρ a)) fun _ => lift (ix ρ) fun y ρ1 => lifo (read ρ1 y) fun i => lifo (owOf (get ρ1 a)) fun d => lifo (setItem d i v) fun d' => k (ρ1.set a (.ow d'))
def forGo (body : Env → F) (tg : Tg) : List D → Env → F
  | [], ρ => .nx ρ
  | x :: xs, ρ => lifo (bindT ρ tg x) fun ρ1 => match body ρ1 with
    | .nx ρ2 => forGo body tg xs ρ2
    | .ct ρ2 => forGo body tg xs ρ2
    | .bk ρ2 => .nx ρ2
    | f => f
def whlGo (test : Env → R (Rv × Env)) (body : Env → F) : Nat → Env → F
  | 0, _ => .no
  | n + 1, ρ => lift (test ρ) fun b ρ1 => lifo (boolOf ρ1 b) fun
    | false => .nx ρ1
    | true => match body ρ1 with
      | .nx ρ2 => whlGo test body n ρ2
      | .ct ρ2 => whlGo test body n ρ2
      | .bk ρ2 => .nx ρ2
      | f => f
def dictS : Slot → Option (List (D × D))
  | .ow (.dict kvs) => some kvs
  | _ => none
def tupOf : D → Option (List D)
  | .tuple xs => some xs
  | _ => none
def two {α : Type} : List α → Option (α × α)
  | [a, b] => some (a, b)
  | _ => none
def retF (x : Rv) (ρ : Env) : F := match x with
  | .d d => .rt d false ρ
  | .f d => .rt d true ρ
  | .o i => match get ρ i with
    | .ow d => .rt d true (ρ.set i .no)
    | .fz d => .rt d false ρ
    | .no => .no
  | .l _ => .no
def fzI : Slot → Option Int
  | .fz (.int i) => some i
  | _ => none

def xec (cx : Ctx) : S → Env → F
  | .nil, ρ => .nx ρ
  | .seq s r, ρ => (xec cx s ρ).seq (xec cx r)
  | .asg i e, ρ => lift (ev cx e ρ) fun x ρ1 => lifo (store i x ρ1) .nx
  | .asgT is e, ρ => lift (ev cx e ρ) fun x ρ1 => lifo (esc ρ1 x) fun p => lifo (tupOf p.1) fun ds => lifo (setAll p.2 is ds) .nx
  | .par is es, ρ => lift (ev cx es ρ) fun x ρ1 => lifo (listOf x) fun rs => lifo (stores is rs ρ1) .nx
  | .set a i e, ρ => lift (ev cx e ρ) fun x ρ1 => lifo (esc ρ1 x) fun p => subGo (ev cx i) a p.1 p.2 .nx
  | .set2 a i j es, ρ => lift (ev cx es ρ) fun x ρ1 => lifo (listOf x) fun rs => lifo (escs ρ1 rs) fun p => lifo (two p.1) fun vw => subGo (ev cx i) a vw.1 p.2 fun ρ3 => subGo (ev cx j) a vw.2 ρ3 .nx
  | .aug i o e, ρ => lifo (fzI (get ρ i)) fun a => lift (ev cx e ρ) fun x ρ1 => lifo (read ρ1 x) fun y => lifo (intOf y) fun b => lifo (binop o (.int a) (.int b)) fun z => lifo (store1 i z ρ1) .nx
  | .app i e, ρ => lifo (lstOf (get ρ i)) fun _ => lift (ev cx e ρ) fun x ρ1 => lifo (esc ρ1 x) fun p => lifo (lstOf (get p.2 i)) fun xs =>
      if xs.length < big then .nx (p.2.set i (.ow (.list (xs ++ [p.1])))) else .no
  | .upd i e, ρ => lift (ev cx e ρ) fun x ρ1 => lifo (read ρ1 x) fun y => lifo (dictOf y) fun more => lifo (dictS (get ρ1 i)) fun kvs =>
      .nx (ρ1.set i (.ow (.dict (more.foldl (fun a p => dput a p.1 p.2) kvs))))
  | .exp e, ρ => lift (ev cx e ρ) fun _ ρ1 => .nx ρ1
  | .ret e, ρ => lift (ev cx e ρ) retF
  | .retN, ρ => .rt .none false ρ
  | .ife t a b, ρ => lift (ev cx t ρ) fun x ρ1 => lifo (boolOf ρ1 x) fun
    | true => xec cx a ρ1
    | false => xec cx b ρ1
  | .for tg w it body, ρ => lift (ev cx it ρ) fun x ρ1 => lifo (listOf x) fun rs => lifo (reads ρ1 rs) fun ds => lifo (escs ρ1 rs) fun p => lifo (walked w ds) fun items => forGo (xec cx body) tg items p.2
  | .whl t body, ρ => whlGo (ev cx t) (xec cx body) cx.fuel ρ
  | .rse x, _ => .er x
  | .tryx body _ hand, ρ => match xec cx body ρ with
    | .er _ => xec cx hand ρ
    | f => f
  | .brk, ρ => .bk ρ
  | .cont, ρ => .ct ρ
  | .pass, ρ => .nx ρ

/-- a def's run: its arguments in the first slots -/
def entry (n : Nat) (io : Bool) (ds : List D) : Env := (match io, ds with
  | true, b :: r => .ow b :: r.map .fz
  | _, ds => ds.map .fz) ++ List.replicate (n - ds.length) .no
def run (cx : Ctx) (n : Nat) (io : Bool) (body : S) (ds : List D) : FR :=
  match io, xec cx body (entry n io ds) with
  | false, .rt d fr _ => .ok d fr
  | false, .nx _ => .ok .none false
  | false, .er x => .er x
  | true, .rt d fr ρ => match get ρ 0 with | .ow b => .io d fr b | _ => .no
  | true, .nx ρ => match get ρ 0 with | .ow b => .io .none false b | _ => .no
  | _, _ => .no
end Iv
set_option maxRecDepth 100000
set_option maxHeartbeats 4000000
/-! Iv1: data in the abstract heap; owned objects; the relation of slots. -/
namespace Iv
open PySem L2

abbrev St := L2.St
abbrev Set := Addr → Prop
open Classical in
/-- the heap without M -/
noncomputable def hid (M : Set) (H : Hp) : Hp := fun a => if M a then none else H a
theorem hid_some {M : Set} {H : Hp} {a : Addr} {o : HO} : hid M H a = some o ↔ ¬ M a ∧ H a = some o := by
  unfold hid
  by_cases h : M a
  · simp [h]
  · simp [h]
/-- what stands, stands -/
def Ex (H H' : Hp) : Prop := ∀ a o, H a = some o → H' a = some o
theorem Ex.refl (H : Hp) : Ex H H := fun _ _ h => h
theorem Ex.trans {H H1 H2 : Hp} (a : Ex H H1) (b : Ex H1 H2) : Ex H H2 := fun x o h => b x o (a x o h)
theorem Ex.new {H : Hp} {p : Addr} {o : HO} (h : H p = none) : Ex H (upd H p o) := fun a u e => by
  rw [upd_ne (ne_of_none e h)]
  exact e
theorem hid_le {M : Set} {H : Hp} : Ex (hid M H) H := fun _ _ h => (hid_some.mp h).2
theorem hid_mono {M M' : Set} {H H' : Hp} (hM : ∀ a, M' a → M a) (h : ∀ a o, ¬ M a → H a = some o → H' a = some o) : Ex (hid M H) (hid M' H') := fun a o e => by
  obtain ⟨n, e⟩ := hid_some.mp e
  exact hid_some.mpr ⟨fun z => n (hM a z), h a o n e⟩

/-- the module's names, the program and the world beside them -/
structure MG where
  f : Str → Option Value
  P : Program
  w : World
instance : CoeFun MG fun _ => Str → Option Value := ⟨MG.f⟩
abbrev gm (X : Cx) : MG := ⟨X.mg, X.prog, X.w⟩
def kD : Key → D
  | .inl i => .int i
  | .inr x => .str x
/-- a dict's one object; its keys numbers and texts -/
def DKo (mg : MG) (a : Addr) (o : Obj) (kvs : List (Key × V)) : HO := .ext fun h => h.get? a = some o ∧ kvs.length ≤ sizeLine ∧ (a == sysModules) = false ∧ o.ExactDict ∧
  ∃ (es : Array DictEntry) (ep : Nat) (vs : List (Key × Value)), o.data = .dict es ep ∧ KV kvs vs ∧ KeysOf (mixKind mg.P mg.w) es ∧ Pairs (mixKind mg.P mg.w) es.toList vs ∧ (vs.map (·.1)).Nodup
/-- .. its keys tuples of these, each with its own tuple -/
def DTo (mg : MG) (a : Addr) (o : Obj) (xs : List (List Key × Addr × V)) : HO := .ext fun h => h.get? a = some o ∧ xs.length ≤ sizeLine ∧ (a == sysModules) = false ∧ o.ExactDict ∧
  ∃ (es : Array DictEntry) (ep : Nat) (ys : List (List Key × Addr × Value)), o.data = .dict es ep ∧ Paired (fun x y => x.1 = y.1 ∧ x.2.1 = y.2.1 ∧ RelV x.2.2 y.2.2) xs ys ∧ es.toList = ys.map (entryOfKey (tupleKind (mixKind mg.P mg.w))) ∧ (ys.map (·.1)).Nodup
theorem kD_inj {a b : Key} (h : kD a = kD b) : a = b := by
  cases a <;> cases b <;> simp_all [kD]

mutual
/-- v is the data d -/
inductive Rp (K : PySem.W.Frag) (mg : MG) (H : Hp) : V → D → Prop
  | non : Rp K mg H .non .none
  | bl (b : Bool) : Rp K mg H (.bl b) (.bool b)
  | int (i : Int) : Rp K mg H (.int i) (.int i)
  | str (x : Str) : Rp K mg H (.str x) (.str x)
  | lst {a : Addr} {xs : List V} {ds : List D} : H a = some (.lst xs) → RpA K mg H xs ds → Rp K mg H (.ref a) (.list ds)
  | tup {a : Addr} {xs : List V} {ds : List D} {o : Obj} : H a = some (.frz o (.tup xs)) → o.dict = none → RpA K mg H xs ds → Rp K mg H (.ref a) (.tuple ds)
  | dK {a : Addr} {o : Obj} {kvs : List (Key × V)} {ds : List (D × D)} : H a = some (DKo mg a o kvs) → RpP K mg H (kvs.map fun p => (kD p.1, p.2)) ds → Rp K mg H (.ref a) (.dict ds)
  | dT {a : Addr} {o : Obj} {xs : List (List Key × Addr × V)} {ds : List (D × D)} : H a = some (DTo mg a o xs) → RpA K mg H (xs.map fun p => .ref p.2.1) (xs.map fun p => .tuple (p.1.map kD)) → RpP K mg H (xs.map fun p => (.tuple (p.1.map kD), p.2.2)) ds → Rp K mg H (.ref a) (.dict ds)
  | fn {f : Addr} {x : Str} : mg x = some (.ref f) → Rp K mg H (.ref f) (fnD x)
  | scr {a : Addr} {ns : List Int} : SqL K H a (ns.map V.int) → Rp K mg H (.ref a) (scrD ns)
inductive RpA (K : PySem.W.Frag) (mg : MG) (H : Hp) : List V → List D → Prop
  | nil : RpA K mg H [] []
  | cons {v : V} {vs : List V} {d : D} {ds : List D} : Rp K mg H v d → RpA K mg H vs ds → RpA K mg H (v :: vs) (d :: ds)
inductive RpP (K : PySem.W.Frag) (mg : MG) (H : Hp) : List (D × V) → List (D × D) → Prop
  | nil : RpP K mg H [] []
  | cons {k : D} {v : V} {vs : List (D × V)} {d : D} {ds : List (D × D)} : Rp K mg H v d → RpP K mg H vs ds → RpP K mg H ((k, v) :: vs) ((k, d) :: ds)
end

section
variable {K : PySem.W.Frag} {mg : MG} {H H' : Hp}
theorem Rd.ex {a : Addr} {u : HO} (e : Ex H H') (h : Rd H a u) : Rd H' a u := by
  rcases h with h | ⟨o, h⟩
  · exact .inl (e a _ h)
  · exact .inr ⟨o, e a _ h⟩
theorem SqL.ex {a : Addr} {xs : List V} (e : Ex H H') (h : SqL K H a xs) : SqL K H' a xs := by
  rcases h with h | h
  · exact .inl (Rd.ex e h)
  · exact .inr h
mutual
theorem Rp.ex (e : Ex H H') : ∀ {v : V} {d : D}, Rp K mg H v d → Rp K mg H' v d
  | _, _, .non => .non
  | _, _, .bl b => .bl b
  | _, _, .int i => .int i
  | _, _, .str x => .str x
  | _, _, .lst h r => .lst (e _ _ h) (RpA.ex e r)
  | _, _, .tup h d r => .tup (e _ _ h) d (RpA.ex e r)
  | _, _, .dK h r => .dK (e _ _ h) (RpP.ex e r)
  | _, _, .dT h q r => .dT (e _ _ h) (RpA.ex e q) (RpP.ex e r)
  | _, _, .fn h => .fn h
  | _, _, .scr h => .scr (SqL.ex e h)
theorem RpA.ex (e : Ex H H') : ∀ {vs : List V} {ds : List D}, RpA K mg H vs ds → RpA K mg H' vs ds
  | _, _, .nil => .nil
  | _, _, .cons h r => .cons (Rp.ex e h) (RpA.ex e r)
theorem RpP.ex (e : Ex H H') : ∀ {vs : List (D × V)} {ds : List (D × D)}, RpP K mg H vs ds → RpP K mg H' vs ds
  | _, _, .nil => .nil
  | _, _, .cons h r => .cons (Rp.ex e h) (RpP.ex e r)
end
theorem RpA.length : ∀ {vs : List V} {ds : List D}, RpA K mg H vs ds → vs.length = ds.length
  | _, _, .nil => rfl
  | _, _, .cons _ r => by simp [RpA.length r]
theorem RpA.get : ∀ {vs : List V} {ds : List D} {i : Nat} {d : D}, RpA K mg H vs ds → ds[i]? = some d → ∃ v, vs[i]? = some v ∧ Rp K mg H v d
  | _, _, _, _, .nil, e => by simp at e
  | _, _, 0, _, .cons h _, e => by
    simp at e
    subst e
    exact ⟨_, rfl, h⟩
  | _, _, i + 1, _, .cons _ r, e => by
    obtain ⟨v, a, b⟩ := RpA.get (i := i) r (by simpa using e)
    exact ⟨v, by simpa using a, b⟩
theorem RpA.get' : ∀ {vs : List V} {ds : List D} {i : Nat} {v : V}, RpA K mg H vs ds → vs[i]? = some v → ∃ d, ds[i]? = some d ∧ Rp K mg H v d
  | _, _, _, _, .nil, e => by simp at e
  | _, _, 0, _, .cons h _, e => by
    simp at e
    subst e
    exact ⟨_, rfl, h⟩
  | _, _, i + 1, _, .cons _ r, e => by
    obtain ⟨v, a, b⟩ := RpA.get' (i := i) r (by simpa using e)
    exact ⟨v, by simpa using a, b⟩
theorem RpA.append : ∀ {vs ws : List V} {ds es : List D}, RpA K mg H vs ds → RpA K mg H ws es → RpA K mg H (vs ++ ws) (ds ++ es)
  | _, _, _, _, .nil, s => s
  | _, _, _, _, .cons h r, s => .cons h (RpA.append r s)
theorem RpA.take : ∀ {vs : List V} {ds : List D} (n : Nat), RpA K mg H vs ds → RpA K mg H (vs.take n) (ds.take n)
  | _, _, 0, _ => .nil
  | _, _, _ + 1, .nil => .nil
  | _, _, n + 1, .cons h r => .cons h (RpA.take n r)
theorem RpA.drop : ∀ {vs : List V} {ds : List D} (n : Nat), RpA K mg H vs ds → RpA K mg H (vs.drop n) (ds.drop n)
  | _, _, 0, r => r
  | _, _, _ + 1, .nil => .nil
  | _, _, n + 1, .cons h r => RpA.drop n r
theorem RpA.reverse {vs : List V} {ds : List D} (h : RpA K mg H vs ds) : RpA K mg H vs.reverse ds.reverse := by
  induction vs generalizing ds with
  | nil => cases h; exact .nil
  | cons v vs ih =>
    cases h with
    | cons h r =>
      rw [List.reverse_cons, List.reverse_cons]
      exact (ih r).append (.cons h .nil)
theorem RpA.set {v : V} {d : D} (h : Rp K mg H v d) : ∀ {vs : List V} {ds : List D} (i : Nat), RpA K mg H vs ds → RpA K mg H (vs.set i v) (ds.set i d)
  | _, _, _, .nil => .nil
  | _, _, 0, .cons _ r => .cons h r
  | _, _, i + 1, .cons g r => .cons g (RpA.set h i r)
theorem RpA.eraseIdx : ∀ {vs : List V} {ds : List D} (i : Nat), RpA K mg H vs ds → RpA K mg H (vs.eraseIdx i) (ds.eraseIdx i)
  | _, _, _, .nil => .nil
  | _, _, 0, .cons _ r => r
  | _, _, i + 1, .cons g r => .cons g (RpA.eraseIdx i r)
theorem RpA.dropLast {vs : List V} {ds : List D} (h : RpA K mg H vs ds) : RpA K mg H vs.dropLast ds.dropLast := by
  rw [List.dropLast_eq_take, List.dropLast_eq_take, h.length]
  exact h.take _
theorem RpA.rep {vs : List V} {ds : List D} (h : RpA K mg H vs ds) : ∀ n : Nat, RpA K mg H (List.replicate n vs).flatten (List.replicate n ds).flatten
  | 0 => .nil
  | n + 1 => by
    rw [List.replicate_succ, List.replicate_succ, List.flatten_cons, List.flatten_cons]
    exact h.append (RpA.rep h n)
theorem RpA.ints : ∀ {ns : List Int} {vs : List V}, RpA K mg H vs (ns.map .int) → vs = ns.map V.int
  | [], _, h => by cases h; rfl
  | n :: ns, _, h => by
    cases h with
    | cons h r => cases h; rw [RpA.ints r]; rfl
theorem rpA_ints : ∀ ns : List Int, RpA K mg H (ns.map V.int) (ns.map .int)
  | [] => .nil
  | n :: ns => .cons (.int n) (rpA_ints ns)
theorem intsD_eq : ∀ {ds : List D} {ns : List Int}, intsD ds = some ns → ds = ns.map .int
  | [], _, h => by cases h; rfl
  | .int i :: r, _, h => by
    simp only [intsD, Option.map_eq_some_iff] at h
    obtain ⟨ns, h, rfl⟩ := h
    rw [intsD_eq h]
    rfl
  | .none :: _, _, h | .bool _ :: _, _, h | .str _ :: _, _, h | .list _ :: _, _, h | .tuple _ :: _, _, h | .dict _ :: _, _, h => by simp [intsD] at h
theorem intsD_map : ∀ ns : List Int, intsD (ns.map .int) = some ns
  | [] => rfl
  | n :: ns => by simp [intsD, intsD_map ns]
theorem boolsD_eq : ∀ {ds : List D} {ns : List Bool}, boolsD ds = some ns → ds = ns.map .bool
  | [], _, h => by cases h; rfl
  | .bool i :: r, _, h => by
    simp only [boolsD, Option.map_eq_some_iff] at h
    obtain ⟨ns, h, rfl⟩ := h
    rw [boolsD_eq h]
    rfl
  | .none :: _, _, h | .int _ :: _, _, h | .str _ :: _, _, h | .list _ :: _, _, h | .tuple _ :: _, _, h | .dict _ :: _, _, h => by simp [boolsD] at h
theorem RpA.bools : ∀ {ns : List Bool} {vs : List V}, RpA K mg H vs (ns.map .bool) → vs = ns.map V.bl
  | [], _, h => by cases h; rfl
  | n :: ns, _, h => by
    cases h with
    | cons h r => cases h; rw [RpA.bools r]; rfl

/-! ### data without dicts: the layer's Dp -/
mutual
theorem Rp.dp : ∀ {v : V} {d : D}, Rp K mg H v d → d.canLay0 = true → Dp K H v d
  | _, _, .non, _ => .non
  | _, _, .bl b, _ => .bl b
  | _, _, .int i, _ => .int i
  | _, _, .str x, _ => .str x
  | _, _, .lst h r, c => .lst (SqL.of h) (RpA.dp r (by simpa [PyData.canLay0] using c))
  | _, _, .tup h _ r, c => .tup (.inl (.inr ⟨_, h⟩)) (RpA.dp r (by simpa [PyData.canLay0] using c))
  | _, _, .dK h r, c => by simp [PyData.canLay0] at c
  | _, _, .dT h _ r, c => by simp [PyData.canLay0] at c
  | _, _, .fn h, c => by simp [PyData.canLay0, fnD] at c
  | _, _, .scr h, c => by simp [PyData.canLay0, scrD] at c
theorem RpA.dp : ∀ {vs : List V} {ds : List D}, RpA K mg H vs ds → PyData.canLayAll0 ds = true → DpAll K H vs ds
  | _, _, .nil, _ => .nil
  | _, _, .cons h r, c => by
    simp only [PyData.canLayAll0, Bool.and_eq_true] at c
    exact .cons (Rp.dp h c.1) (RpA.dp r c.2)
end
theorem Rp.shaped {v : V} {d : D} (h : Rp K mg H v d) (c : SeqAt.shaped d = true) : Dp K H v d := h.dp (SeqAt.canLay_of_shaped c)

/-! ### dicts -/
theorem RpP.nil_iff {ds : List (D × D)} (h : RpP K mg H [] ds) : ds = [] := by cases h; rfl
theorem RpP.keys : ∀ {vs : List (D × V)} {ds : List (D × D)}, RpP K mg H vs ds → vs.map (·.1) = ds.map (·.1)
  | _, _, .nil => rfl
  | _, _, .cons _ r => by simp [RpP.keys r]
theorem RpP.length {vs : List (D × V)} {ds : List (D × D)} (h : RpP K mg H vs ds) : vs.length = ds.length := by
  have := congrArg List.length h.keys
  simpa using this
theorem RpP.vals : ∀ {vs : List (D × V)} {ds : List (D × D)}, RpP K mg H vs ds → RpA K mg H (vs.map (·.2)) (ds.map (·.2))
  | _, _, .nil => .nil
  | _, _, .cons h r => .cons h (RpP.vals r)
end

/-! ### owned objects -/
def Own (K : PySem.W.Frag) (mg : MG) (G H : Hp) (p : Addr) : D → Prop
  | .list ds => ∃ xs, H p = some (.lst xs) ∧ RpA K mg G xs ds
  | .dict ds => (∃ (o : Obj) (kvs : List (Key × V)), H p = some (DKo mg p o kvs) ∧ RpP K mg G (kvs.map fun q => (kD q.1, q.2)) ds) ∨
      ∃ (o : Obj) (xs : List (List Key × Addr × V)), H p = some (DTo mg p o xs) ∧ RpA K mg G (xs.map fun p => .ref p.2.1) (xs.map fun p => .tuple (p.1.map kD)) ∧ RpP K mg G (xs.map fun q => (.tuple (q.1.map kD), q.2.2)) ds
  | _ => False
section
variable {K : PySem.W.Frag} {mg : MG} {G G' H H' : Hp} {p : Addr} {d : D}
theorem Own.ex (h : Own K mg G H p d) (e : Ex G G') (hp : H' p = H p) : Own K mg G' H' p d := by
  cases d with
  | list ds =>
    obtain ⟨xs, h1, h2⟩ := h
    exact ⟨xs, hp.trans h1, h2.ex e⟩
  | dict ds =>
    rcases h with ⟨o, kvs, h1, h2⟩ | ⟨o, kvs, h1, h0, h2⟩
    · exact .inl ⟨o, kvs, hp.trans h1, h2.ex e⟩
    · exact .inr ⟨o, kvs, hp.trans h1, h0.ex e, h2.ex e⟩
  | none => exact h
  | bool _ => exact h
  | int _ => exact h
  | str _ => exact h
  | tuple _ => exact h
/-- as it stands it is data -/
theorem Own.rp (h : Own K mg G H p d) (e : Ex G G') (hp : G' p = H p) : Rp K mg G' (.ref p) d := by
  cases d with
  | list ds =>
    obtain ⟨xs, h1, h2⟩ := h
    exact .lst (hp.trans h1) (h2.ex e)
  | dict ds =>
    rcases h with ⟨o, kvs, h1, h2⟩ | ⟨o, kvs, h1, h0, h2⟩
    · exact .dK (hp.trans h1) (h2.ex e)
    · exact .dT (hp.trans h1) (h0.ex e) (h2.ex e)
  | none => exact h.elim
  | bool _ => exact h.elim
  | int _ => exact h.elim
  | str _ => exact h.elim
  | tuple _ => exact h.elim
theorem Own.there (h : Own K mg G H p d) : ∃ o, H p = some o := by
  cases d with
  | list ds => exact ⟨_, h.choose_spec.1⟩
  | dict ds =>
    rcases h with ⟨o, kvs, h1, h2⟩ | ⟨o, kvs, h1, h0, h2⟩ <;> exact ⟨_, h1⟩
  | none => exact h.elim
  | bool _ => exact h.elim
  | int _ => exact h.elim
  | str _ => exact h.elim
  | tuple _ => exact h.elim
end

/-! ### slots -/
theorem get_eq {ρ : Env} {i : Nat} {x : Slot} (h : get ρ i = x) (hx : x ≠ .no) : ρ[i]? = some x := by
  unfold get at h
  rw [List.getD_eq_getElem?_getD] at h
  cases e : ρ[i]? with
  | none =>
    rw [e] at h
    exact absurd h.symm hx
  | some y =>
    rw [e] at h
    exact congrArg some h
theorem get_lt {ρ : Env} {i : Nat} {x : Slot} (h : get ρ i = x) (hx : x ≠ .no) : i < ρ.length := (List.getElem?_eq_some_iff.mp (get_eq h hx)).1
theorem get_set {ρ : Env} {i j : Nat} {x : Slot} : get (ρ.set i x) j = if i = j ∧ i < ρ.length then x else get ρ j := by
  unfold get
  rw [List.getD_eq_getElem?_getD, List.getD_eq_getElem?_getD, List.getElem?_set]
  by_cases h : i = j
  · subst h
    by_cases hl : i < ρ.length
    · simp [hl]
    · simp [hl]
  · simp [h]

structure Rel (K : PySem.W.Frag) (mg : MG) (M A : Set) (ρ : Env) (σ : St) (H : Hp) : Prop where
  len : ρ.length = σ.length
  am : ∀ a, A a → M a
  mh : ∀ a, M a → ∃ o, H a = some o
  fz : ∀ i d, get ρ i = .fz d → ∃ v, σ[i]? = some (some v) ∧ Rp K mg (hid M H) v d
  ow : ∀ i d, get ρ i = .ow d → ∃ p, σ[i]? = some (some (.ref p)) ∧ A p ∧ Own K mg (hid M H) H p d
  inj : ∀ i j d e p, get ρ i = .ow d → get ρ j = .ow e → σ[i]? = some (some (.ref p)) → σ[j]? = some (some (.ref p)) → i = j
/-- from one state to the next -/
structure Stp (M A : Set) (H : Hp) (M' A' : Set) (H' : Hp) : Prop where
  sub : ∀ a, M' a → M a
  keep : ∀ a, M a → ¬ A a → M' a
  subA : ∀ a, A' a → A a
  fr : ∀ a o, ¬ A a → H a = some o → H' a = some o
  th : ∀ a o, H a = some o → ∃ o', H' a = some o'
section
variable {K : PySem.W.Frag} {mg : MG} {M A M1 A1 M2 A2 : Set} {H H1 H2 : Hp} {ρ ρ1 : Env} {σ : St}
theorem Stp.refl : Stp M A H M A H := ⟨fun _ h => h, fun _ h _ => h, fun _ h => h, fun _ _ _ h => h, fun _ o h => ⟨o, h⟩⟩
theorem Stp.trans (a : Stp M A H M1 A1 H1) (b : Stp M1 A1 H1 M2 A2 H2) : Stp M A H M2 A2 H2 :=
  ⟨fun x h => a.sub x (b.sub x h), fun x h n => b.keep x (a.keep x h n) fun z => n (a.subA x z), fun x h => a.subA x (b.subA x h), fun x o n h => b.fr x o (fun z => n (a.subA x z)) (a.fr x o n h), fun x o h => let ⟨o1, h1⟩ := a.th x o h; b.th x o1 h1⟩
theorem Stp.ex (a : Stp M A H M1 A1 H1) (am : ∀ a, A a → M a) : Ex (hid M H) (hid M1 H1) := hid_mono a.sub fun x o n e => a.fr x o (fun z => n (am x z)) e
/-- new objects alone -/
theorem Stp.of_ex (e : Ex H H1) : Stp M A H M A H1 := ⟨fun _ h => h, fun _ h _ => h, fun _ h => h, fun x o _ h => e x o h, fun x o h => ⟨o, e x o h⟩⟩
theorem Ex.hid (e : Ex H H1) : Ex (hid M H) (hid M H1) := hid_mono (fun _ h => h) fun a o _ h => e a o h
theorem Rel.ex (r : Rel K mg M A ρ σ H) (e : Ex H H1) : Rel K mg M A ρ σ H1 := by
  refine ⟨r.len, r.am, fun a h => let ⟨o, ho⟩ := r.mh a h; ⟨o, e a o ho⟩, fun i d h => ?_, fun i d h => ?_, r.inj⟩
  · obtain ⟨v, h1, h2⟩ := r.fz i d h
    exact ⟨v, h1, h2.ex (Ex.hid e)⟩
  · obtain ⟨p, h1, h2, h3⟩ := r.ow i d h
    obtain ⟨o, ho⟩ := h3.there
    exact ⟨p, h1, h2, h3.ex (Ex.hid e) ((e p o ho).trans ho.symm)⟩

/-- what an expression gives, as a value -/
def RvOk (K : PySem.W.Frag) (mg : MG) (M : Set) (σ : St) (H H1 : Hp) : Rv → V → Prop
  | .d d, v => Rp K mg (hid M H1) v d
  | .f d, v => ∃ p, v = .ref p ∧ H p = none ∧ ¬ M p ∧ Own K mg (hid (fun a => a = p ∨ M a) H1) H1 p d
  | .o i, v => σ[i]? = some (some v)
  | .l _, _ => False
inductive RvsOk (K : PySem.W.Frag) (mg : MG) (M : Set) (σ : St) (H H1 : Hp) : List Rv → List V → Prop
  | nil : RvsOk K mg M σ H H1 [] []
  | cons {r : Rv} {v : V} {rs : List Rv} {vs : List V} : RvOk K mg M σ H H1 r v → RvsOk K mg M σ H H1 rs vs → RvsOk K mg M σ H H1 (r :: rs) (v :: vs)
/-- a later state -/
theorem RvOk.step {r : Rv} {v : V} {H0 : Hp} (h : RvOk K mg M σ H0 H r v) (s : Stp M A H M1 A1 H1) (am : ∀ a, A a → M a) : RvOk K mg M1 σ H0 H1 r v := by
  cases r with
  | d d => exact Rp.ex (s.ex am) h
  | f d =>
    obtain ⟨p, e, n, m, o⟩ := h
    refine ⟨p, e, n, fun z => m (s.sub p z), ?_⟩
    obtain ⟨ob, ho⟩ := o.there
    refine o.ex (hid_mono (fun a z => z.imp id (s.sub a)) fun a u na e => s.fr a u (fun z => na (.inr (am a z))) e) ?_
    exact (s.fr p ob (fun z => m (am p z)) ho).trans ho.symm
  | o i => exact h
  | l rs => exact h
theorem RvsOk.step {H0 : Hp} (s : Stp M A H M1 A1 H1) (am : ∀ a, A a → M a) : ∀ {rs : List Rv} {vs : List V}, RvsOk K mg M σ H0 H rs vs → RvsOk K mg M1 σ H0 H1 rs vs
  | _, _, .nil => .nil
  | _, _, .cons h r => .cons (h.step s am) (RvsOk.step s am r)
/-- an earlier start -/
theorem RvOk.before {r : Rv} {v : V} {H0 : Hp} (s : Stp M A H0 M1 A1 H) (h : RvOk K mg M2 σ H H1 r v) : RvOk K mg M2 σ H0 H1 r v := by
  cases r with
  | f d =>
    obtain ⟨p, e, n, m, o⟩ := h
    refine ⟨p, e, ?_, m, o⟩
    cases q : H0 p with
    | none => rfl
    | some u =>
      obtain ⟨u', hu⟩ := s.th p u q
      rw [n] at hu
      cases hu
  | d d => exact h
  | o i => exact h
  | l rs => exact h
theorem RvsOk.before {H0 : Hp} (s : Stp M A H0 M1 A1 H) : ∀ {rs : List Rv} {vs : List V}, RvsOk K mg M2 σ H H1 rs vs → RvsOk K mg M2 σ H0 H1 rs vs
  | _, _, .nil => .nil
  | _, _, .cons h r => .cons (h.before s) (RvsOk.before s r)

/-- what is read -/
def RdOk (K : PySem.W.Frag) (mg : MG) (M : Set) (H : Hp) (v : V) (d : D) : Prop := Rp K mg (hid M H) v d ∨ ∃ p, v = .ref p ∧ Own K mg (hid M H) H p d
theorem RdOk.rp {v : V} {d : D} (h : RdOk K mg M H v d) : Rp K mg H v d := by
  rcases h with h | ⟨p, rfl, h⟩
  · exact h.ex hid_le
  · exact h.rp hid_le rfl
theorem read_ok {r : Rv} {v : V} {d : D} {H0 : Hp} (rel : Rel K mg M A ρ σ H) (h : RvOk K mg M σ H0 H r v) (e : read ρ r = some d) : RdOk K mg M H v d := by
  cases r with
  | d d' => cases e; exact .inl h
  | f d' =>
    cases e
    obtain ⟨p, rfl, n, m, o⟩ := h
    exact .inr ⟨p, rfl, o.ex (hid_mono (fun a z => .inr z) fun a u _ q => q) rfl⟩
  | o i =>
    have h : σ[i]? = some (some v) := h
    simp only [read] at e
    cases g : get ρ i with
    | no => rw [g] at e; cases e
    | fz d' =>
      rw [g] at e
      cases e
      obtain ⟨v', h1, h2⟩ := rel.fz i _ g
      rw [h] at h1
      cases h1
      exact .inl h2
    | ow d' =>
      rw [g] at e
      cases e
      obtain ⟨p, h1, h2, h3⟩ := rel.ow i _ g
      rw [h] at h1
      cases h1
      exact .inr ⟨p, rfl, h3⟩
  | l rs => cases e
theorem RdOk.int {v : V} {i : Int} (h : RdOk K mg M H v (.int i)) : v = .int i := by
  rcases h with h | ⟨p, rfl, h⟩
  · cases h; rfl
  · exact h.elim
theorem RdOk.bl {v : V} {i : Bool} (h : RdOk K mg M H v (.bool i)) : v = .bl i := by
  rcases h with h | ⟨p, rfl, h⟩
  · cases h; rfl
  · exact h.elim
theorem RdOk.str {v : V} {i : Str} (h : RdOk K mg M H v (.str i)) : v = .str i := by
  rcases h with h | ⟨p, rfl, h⟩
  · cases h; rfl
  · exact h.elim
theorem RdOk.non {v : V} (h : RdOk K mg M H v .none) : v = .non := by
  rcases h with h | ⟨p, rfl, h⟩
  · cases h; rfl
  · exact h.elim
theorem RdOk.lst {v : V} {ds : List D} (h : RdOk K mg M H v (.list ds)) : ∃ p xs, v = .ref p ∧ H p = some (.lst xs) ∧ RpA K mg (hid M H) xs ds := by
  rcases h with h | ⟨p, rfl, xs, h1, h2⟩
  · cases h with
    | lst h r => exact ⟨_, _, rfl, hid_le _ _ h, r⟩
  · exact ⟨p, xs, rfl, h1, h2⟩
theorem RdOk.tup {v : V} {ds : List D} (h : RdOk K mg M H v (.tuple ds)) : ∃ p xs o, v = .ref p ∧ H p = some (.frz o (.tup xs)) ∧ o.dict = none ∧ RpA K mg (hid M H) xs ds := by
  rcases h with h | ⟨p, rfl, h⟩
  · cases h with
    | tup h d r => exact ⟨_, _, _, rfl, hid_le _ _ h, d, r⟩
  · exact h.elim
/-- let go: the freed object joins what is known -/
theorem esc_ok {r : Rv} {v : V} {d : D} {ρ1 : Env} {H0 : Hp} (rel : Rel K mg M A ρ σ H) (h : RvOk K mg M σ H0 H r v) (e : esc ρ r = some (d, ρ1)) :
    ∃ M1 A1, Stp M A H M1 A1 H ∧ Rel K mg M1 A1 ρ1 σ H ∧ Rp K mg (hid M1 H) v d := by
  cases r with
  | d d' => cases e; exact ⟨M, A, .refl, rel, h⟩
  | f d' =>
    cases e
    obtain ⟨p, rfl, n, m, o⟩ := h
    refine ⟨M, A, .refl, rel, o.rp (hid_mono (fun a z => .inr z) fun a u _ q => q) ?_⟩
    obtain ⟨u, hu⟩ := o.there
    rw [hu]
    exact hid_some.mpr ⟨m, hu⟩
  | l rs => cases e
  | o i =>
    have h : σ[i]? = some (some v) := h
    simp only [esc] at e
    cases g : get ρ i with
    | no => rw [g] at e; cases e
    | fz d' =>
      rw [g] at e
      cases e
      obtain ⟨v', h1, h2⟩ := rel.fz i _ g
      rw [h] at h1
      cases h1
      exact ⟨M, A, .refl, rel, h2⟩
    | ow d' =>
      rw [g] at e
      cases e
      obtain ⟨p, h1, h2, h3⟩ := rel.ow i _ g
      rw [h] at h1
      cases h1
      have hi : i < ρ.length := get_lt g (by intro z; cases z)
      have sub : ∀ a, (M a ∧ a ≠ p) → M a := fun a z => z.1
      have hex : Ex (hid M H) (hid (fun a => M a ∧ a ≠ p) H) := hid_mono sub fun _ _ _ q => q
      have hp : (hid (fun a => M a ∧ a ≠ p) H) p = H p := by
        obtain ⟨u, hu⟩ := h3.there
        rw [hu]
        exact hid_some.mpr ⟨fun z => z.2 rfl, hu⟩
      refine ⟨fun a => M a ∧ a ≠ p, fun a => A a ∧ a ≠ p, ⟨sub, fun a z n => ⟨z, fun e => n (e ▸ h2)⟩, fun a z => z.1, fun _ _ _ q => q, fun _ o q => ⟨o, q⟩⟩, ⟨?_, fun a z => ⟨rel.am a z.1, z.2⟩, fun a z => rel.mh a z.1, ?_, ?_, ?_⟩, h3.rp hex hp⟩
      · rw [List.length_set]; exact rel.len
      · intro j d'' hj
        rw [get_set] at hj
        by_cases hij : i = j ∧ i < ρ.length
        · rw [if_pos hij] at hj
          cases hj
          rw [← hij.1]
          exact ⟨_, h, h3.rp hex hp⟩
        · rw [if_neg hij] at hj
          obtain ⟨v', q1, q2⟩ := rel.fz j _ hj
          exact ⟨v', q1, q2.ex hex⟩
      · intro j d'' hj
        rw [get_set] at hj
        by_cases hij : i = j ∧ i < ρ.length
        · rw [if_pos hij] at hj
          cases hj
        · rw [if_neg hij] at hj
          obtain ⟨q, q1, q2, q3⟩ := rel.ow j _ hj
          refine ⟨q, q1, ⟨q2, ?_⟩, q3.ex hex rfl⟩
          intro e
          subst e
          exact hij ⟨rel.inj i j _ _ _ g hj h q1, hi⟩
      · intro a b d1 d2 q h1 h2 h3 h4
        rw [get_set] at h1 h2
        by_cases ha : i = a ∧ i < ρ.length
        · rw [if_pos ha] at h1; cases h1
        · by_cases hb : i = b ∧ i < ρ.length
          · rw [if_pos hb] at h2; cases h2
          · rw [if_neg ha] at h1
            rw [if_neg hb] at h2
            exact rel.inj a b _ _ q h1 h2 h3 h4
theorem escs_ok : ∀ {rs : List Rv} {vs : List V} {ds : List D} {ρ ρ1 : Env} {M A : Set} {H0 : Hp}, Rel K mg M A ρ σ H → RvsOk K mg M σ H0 H rs vs → escs ρ rs = some (ds, ρ1) →
    ∃ M1 A1, Stp M A H M1 A1 H ∧ Rel K mg M1 A1 ρ1 σ H ∧ RpA K mg (hid M1 H) vs ds
  | [], _, _, _, _, M, A, _, rel, .nil, e => by
    cases e
    exact ⟨M, A, .refl, rel, .nil⟩
  | r :: rs, _, _, ρ, _, M, A, H0, rel, .cons h hr, e => by
    simp only [escs] at e
    cases e1 : esc ρ r with
    | none => rw [e1] at e; cases e
    | some p =>
      obtain ⟨d, ρ1⟩ := p
      simp only [e1, Option.bind_some] at e
      cases e2 : escs ρ1 rs with
      | none => simp [e2] at e
      | some p =>
        obtain ⟨ds, ρ2⟩ := p
        simp [e2] at e
        obtain ⟨rfl, rfl⟩ := e
        obtain ⟨M1, A1, s1, r1, h1⟩ := esc_ok rel h e1
        obtain ⟨M2, A2, s2, r2, h2⟩ := escs_ok r1 (hr.step s1 rel.am) e2
        exact ⟨M2, A2, s1.trans s2, r2, .cons (h1.ex (s2.ex r1.am)) h2⟩
inductive RdsOk (K : PySem.W.Frag) (mg : MG) (M : Set) (H : Hp) : List V → List D → Prop
  | nil : RdsOk K mg M H [] []
  | cons {v : V} {d : D} {vs : List V} {ds : List D} : RdOk K mg M H v d → RdsOk K mg M H vs ds → RdsOk K mg M H (v :: vs) (d :: ds)
theorem reads_ok : ∀ {rs : List Rv} {vs : List V} {ds : List D} {H0 : Hp}, Rel K mg M A ρ σ H → RvsOk K mg M σ H0 H rs vs → reads ρ rs = some ds → RdsOk K mg M H vs ds
  | [], _, _, _, _, .nil, e => by cases e; exact .nil
  | r :: rs, _, _, _, rel, .cons h hr, e => by
    simp only [reads] at e
    cases e1 : read ρ r with
    | none => simp [e1] at e
    | some d =>
      cases e2 : reads ρ rs with
      | none => simp [e1, e2] at e
      | some ds =>
        simp [e1, e2] at e
        subst e
        exact .cons (read_ok rel h e1) (reads_ok rel hr e2)

/-! ### what is new stands apart -/
theorem Rel.less {M' : Set} (rel : Rel K mg M A ρ σ H) (h : ∀ a, M' a → M a) (ha : ∀ a, A a → M' a) : Rel K mg M' A ρ σ H := by
  have ex : Ex (hid M H) (hid M' H) := hid_mono h fun _ _ _ e => e
  refine ⟨rel.len, ha, fun a z => rel.mh a (h a z), fun j e hj => ?_, fun j e hj => ?_, rel.inj⟩
  · obtain ⟨v, h1, h2⟩ := rel.fz j e hj
    exact ⟨v, h1, h2.ex ex⟩
  · obtain ⟨q, h1, h2, h3⟩ := rel.ow j e hj
    exact ⟨q, h1, h2, h3.ex ex rfl⟩
/-- with a result: a new object stands apart from all that is known -/
def RelR (K : PySem.W.Frag) (mg : MG) (M A : Set) (ρ : Env) (σ : St) (H : Hp) (r : Rv) (v : V) : Prop := match r with
  | .f _ => ∃ p, v = .ref p ∧ ¬ A p ∧ Rel K mg (fun a => a = p ∨ M a) A ρ σ H
  | .d _ => Rel K mg M A ρ σ H
  | .o _ => Rel K mg M A ρ σ H
  | .l _ => Rel K mg M A ρ σ H
theorem RelR.weak {r : Rv} {v : V} {H0 : Hp} (h : RelR K mg M A ρ σ H r v) (ok : RvOk K mg M σ H0 H r v) : Rel K mg M A ρ σ H := by
  cases r with
  | f d =>
    obtain ⟨p, rfl, nA, rel⟩ := h
    exact rel.less (fun a z => .inr z) fun a z => (rel.am a z).resolve_left fun e => nA (e ▸ z)
  | d _ => exact h
  | o _ => exact h
  | l _ => exact h
def FrsIn (rs : List Rv) (vs : List V) (a : Addr) : Prop := ∃ (j : Nat) (d : D), rs[j]? = some (Rv.f d) ∧ vs[j]? = some (V.ref a)
/-- values that stand apart from each other -/
inductive RvS (K : PySem.W.Frag) (mg : MG) (S : Set) (H : Hp) : List Rv → List V → Prop
  | nil : RvS K mg S H [] []
  | d {d : D} {v : V} {rs : List Rv} {vs : List V} : Rp K mg (hid S H) v d → RvS K mg S H rs vs → RvS K mg S H (.d d :: rs) (v :: vs)
  | f {d : D} {a : Addr} {rs : List Rv} {vs : List V} : S a → ¬ FrsIn rs vs a → Own K mg (hid S H) H a d → RvS K mg S H rs vs → RvS K mg S H (.f d :: rs) (.ref a :: vs)
  | o {i : Nat} {v : V} {rs : List Rv} {vs : List V} : RvS K mg S H rs vs → RvS K mg S H (.o i :: rs) (v :: vs)
def RelRs (K : PySem.W.Frag) (mg : MG) (M A : Set) (ρ : Env) (σ : St) (H : Hp) (rs : List Rv) (vs : List V) : Prop :=
  (∀ a, FrsIn rs vs a → ¬ A a ∧ ¬ M a) ∧ Rel K mg (fun a => FrsIn rs vs a ∨ M a) A ρ σ H ∧ RvS K mg (fun a => FrsIn rs vs a ∨ M a) H rs vs
theorem FrsIn.nil {a : Addr} : ¬ FrsIn [] [] a := fun ⟨j, d, h, _⟩ => by simp at h
theorem FrsIn.cons {r : Rv} {v : V} {rs : List Rv} {vs : List V} {a : Addr} : FrsIn (r :: rs) (v :: vs) a ↔ (∃ d, r = Rv.f d ∧ v = V.ref a) ∨ FrsIn rs vs a := by
  constructor
  · rintro ⟨j, d, h1, h2⟩
    cases j with
    | zero =>
      simp at h1 h2
      exact .inl ⟨d, h1, h2⟩
    | succ j => exact .inr ⟨j, d, by simpa using h1, by simpa using h2⟩
  · rintro (⟨d, rfl, rfl⟩ | ⟨j, d, h1, h2⟩)
    · exact ⟨0, d, rfl, rfl⟩
    · exact ⟨j + 1, d, by simpa using h1, by simpa using h2⟩
/-- what was new was no part of the start -/
theorem Stp.drop {p : Addr} (s : Stp (fun a => a = p ∨ M a) A H M2 A2 H2) (h : ¬ M p) : Stp M A H (fun a => M2 a ∧ a ≠ p) A2 H2 :=
  ⟨fun a z => (s.sub a z.1).resolve_left z.2, fun a z n => ⟨s.keep a (.inr z) n, fun e => h (e ▸ z)⟩, s.subA, s.fr, s.th⟩
theorem RvOk.less {r : Rv} {v : V} {H0 : Hp} {M' : Set} (h : RvOk K mg M σ H0 H r v) (hm : ∀ a, M' a → M a) : RvOk K mg M' σ H0 H r v := by
  cases r with
  | d d => exact Rp.ex (hid_mono hm fun _ _ _ e => e) h
  | f d =>
    obtain ⟨p, e, n, m, o⟩ := h
    exact ⟨p, e, n, fun z => m (hm p z), o.ex (hid_mono (fun a z => z.imp id (hm a)) fun _ _ _ e => e) rfl⟩
  | o i => exact h
  | l rs => exact h
theorem RvsOk.less {H0 : Hp} {M' : Set} (hm : ∀ a, M' a → M a) : ∀ {rs : List Rv} {vs : List V}, RvsOk K mg M σ H0 H rs vs → RvsOk K mg M' σ H0 H rs vs
  | _, _, .nil => .nil
  | _, _, .cons h r => .cons (h.less hm) (RvsOk.less hm r)
theorem frs_new {H0 : Hp} {a : Addr} : ∀ {rs : List Rv} {vs : List V}, RvsOk K mg M σ H0 H rs vs → FrsIn rs vs a → H0 a = none
  | _, _, .nil, h => absurd h FrsIn.nil
  | _, _, .cons h r, z => by
    rcases FrsIn.cons.mp z with ⟨d, rfl, rfl⟩ | z
    · obtain ⟨p, e, n, _⟩ := h
      cases e
      exact n
    · exact frs_new r z
end
end Iv
set_option maxRecDepth 100000
set_option maxHeartbeats 4000000
/-! Iv2: what it means that code tells an expression; operators. -/
namespace Iv
open PySem PySem.Spec PyProof.Rows L2

/-- the weakest readings -/
def SE (X : Cx) (e : Expr) : TE := fun σ H Q => ∀ pins s, Inv X pins σ H s → wpAny (model X.prog X.w) X.A (eval e X.env) (EP X pins σ Q) X.xe s
def ST (X : Cx) (e : Expr) : TT := fun σ H Q => ∀ pins s, Inv X pins σ H s → wpAny (model X.prog X.w) X.A (isTrue e X.env (eval e X.env)) (TP X pins σ Q) X.xe s
def SA (X : Cx) (es : List Expr) : TA := fun σ H Q => ∀ pos pins s, Inv X pins σ H s → wpAny (model X.prog X.w) X.A (spliced (backTo pos (starEach es X.env))) (AP X pins σ Q) X.xe s
def SS (X : Cx) (st : Stmt) : TS := fun D σ H => ∀ pins s, Inv X pins σ H s → wpAny (model X.prog X.w) X.A (exec st X.env) (SP X pins D) X.xe s
def SSs (X : Cx) (sts : List Stmt) : TS := fun D σ H => ∀ pins s, Inv X pins σ H s → wpAny (model X.prog X.w) X.A (execs sts X.env) (SP X pins D) X.xe s
theorem pe_se {X : Cx} {e : Expr} : PE X e (SE X e) := ⟨fun pins s σ H Q I h => h pins s I⟩
theorem pt_st {X : Cx} {e : Expr} : PT X e (ST X e) := ⟨fun pins s σ H Q I h => h pins s I⟩
theorem pa_sa {X : Cx} {es : List Expr} : PA X es (SA X es) := ⟨fun pos pins s σ H Q I h => h pos pins s I⟩
theorem ps_ss {X : Cx} {st : Stmt} : PS X st (SS X st) := ⟨fun pins s σ H D I h => h pins s I⟩
theorem pss_sss {X : Cx} {sts : List Stmt} : PSs X sts (SSs X sts) := ⟨fun pins s σ H D I h => h pins s I⟩
theorem se_of {X : Cx} {e : Expr} {t : TE} (h : PE X e t) {σ : St} {H : Hp} {Q : VK} (q : t σ H Q) : SE X e σ H Q := fun pins s I => h.run pins s σ H Q I q
theorem st_of {X : Cx} {e : Expr} {t : TT} (h : PT X e t) {σ : St} {H : Hp} {Q : Bool → Hp → Prop} (q : t σ H Q) : ST X e σ H Q := fun pins s I => h.run pins s σ H Q I q
theorem sa_of {X : Cx} {es : List Expr} {t : TA} (h : PA X es t) {σ : St} {H : Hp} {Q : List V → Hp → Prop} (q : t σ H Q) : SA X es σ H Q := fun pos pins s I => h.run pos pins s σ H Q I q
theorem ss_of {X : Cx} {st : Stmt} {t : TS} (h : PS X st t) {D : Ends} {σ : St} {H : Hp} (q : t D σ H) : SS X st D σ H := fun pins s I => h.run pins s σ H D I q
theorem sss_of {X : Cx} {sts : List Stmt} {t : TS} (h : PSs X sts t) {D : Ends} {σ : St} {H : Hp} (q : t D σ H) : SSs X sts D σ H := fun pins s I => h.run pins s σ H D I q

/-- what is wanted where a def of class x is raised -/
abbrev Wish := Str → St → Hp → Prop
section
variable {X : Cx} {W : Wish} {M A M1 A1 : Set} {σ : St} {H H1 : Hp}

def AccE (X : Cx) (W : Wish) (M A : Set) (σ : St) (H : Hp) (res : R (Rv × Env)) (Q : VK) : Prop := match res with
  | .ok (r, ρ) => ∀ v H1 M1 A1, Stp M A H M1 A1 H1 → RelR X.K (gm X) M1 A1 ρ σ H1 r v → RvOk X.K (gm X) M1 σ H H1 r v → Q v H1
  | .er x => ∀ H1 M1 A1, Stp M A H M1 A1 H1 → W x σ H1
  | .no => False
def AccT (X : Cx) (W : Wish) (M A : Set) (σ : St) (H : Hp) (res : R (Rv × Env)) (Q : Bool → Hp → Prop) : Prop := match res with
  | .ok (r, ρ) => ∀ b H1 M1 A1, r = .d (.bool b) → Stp M A H M1 A1 H1 → Rel X.K (gm X) M1 A1 ρ σ H1 → Q b H1
  | .er x => ∀ H1 M1 A1, Stp M A H M1 A1 H1 → W x σ H1
  | .no => False
def AccA (X : Cx) (W : Wish) (M A : Set) (σ : St) (H : Hp) (res : R (Rv × Env)) (Q : List V → Hp → Prop) : Prop := match res with
  | .ok (r, ρ) => ∀ rs vs H1 M1 A1, r = .l rs → Stp M A H M1 A1 H1 → Rel X.K (gm X) M1 A1 ρ σ H1 → RvsOk X.K (gm X) M1 σ H H1 rs vs → RelRs X.K (gm X) M1 A1 ρ σ H1 rs vs → Q vs H1
  | .er x => ∀ H1 M1 A1, Stp M A H M1 A1 H1 → W x σ H1
  | .no => False
theorem AccE.step {res : R (Rv × Env)} {Q : VK} (a : AccE X W M A σ H res Q) (s : Stp M A H M1 A1 H1) : AccE X W M1 A1 σ H1 res Q := by
  cases res with
  | ok p => exact fun v H2 M2 A2 s2 r2 h2 => a v H2 M2 A2 (s.trans s2) r2 (h2.before s)
  | er x => exact fun H2 M2 A2 s2 => a H2 M2 A2 (s.trans s2)
  | no => exact a
theorem AccT.step {res : R (Rv × Env)} {Q : Bool → Hp → Prop} (a : AccT X W M A σ H res Q) (s : Stp M A H M1 A1 H1) : AccT X W M1 A1 σ H1 res Q := by
  cases res with
  | ok p => exact fun b H2 M2 A2 e s2 r2 => a b H2 M2 A2 e (s.trans s2) r2
  | er x => exact fun H2 M2 A2 s2 => a H2 M2 A2 (s.trans s2)
  | no => exact a
theorem AccA.step {res : R (Rv × Env)} {Q : List V → Hp → Prop} (a : AccA X W M A σ H res Q) (s : Stp M A H M1 A1 H1) : AccA X W M1 A1 σ H1 res Q := by
  cases res with
  | ok p => exact fun rs vs H2 M2 A2 e s2 r2 h2 q2 => a rs vs H2 M2 A2 e (s.trans s2) r2 (h2.before s) q2
  | er x => exact fun H2 M2 A2 s2 => a H2 M2 A2 (s.trans s2)
  | no => exact a

/-- the code c tells the expression e -/
def SndE (cx : Ctx) (X : Cx) (W : Wish) (e : Expr) (c : C) : Prop := ∀ ρ M A σ H Q, Rel X.K (gm X) M A ρ σ H → AccE X W M A σ H (ev cx c ρ) Q → SE X e σ H Q
def SndT (cx : Ctx) (X : Cx) (W : Wish) (e : Expr) (c : C) : Prop := ∀ ρ M A σ H Q, Rel X.K (gm X) M A ρ σ H → AccT X W M A σ H (ev cx c ρ) Q → ST X e σ H Q
def SndA (cx : Ctx) (X : Cx) (W : Wish) (es : List Expr) (c : C) : Prop := ∀ ρ M A σ H Q, Rel X.K (gm X) M A ρ σ H → AccA X W M A σ H (ev cx c ρ) Q → SA X es σ H Q

variable {cx : Ctx} {ρ : Env}
/-- a part, then the rest -/
theorem SndE.bind {e : Expr} {c : C} (h : SndE cx X W e c) (rel : Rel X.K (gm X) M A ρ σ H) {k : Rv → Env → R (Rv × Env)} {Q Q1 : VK} (acc : AccE X W M A σ H ((ev cx c ρ).bd k) Q)
    (hk : ∀ x ρ1 v H1 M1 A1, Stp M A H M1 A1 H1 → Rel X.K (gm X) M1 A1 ρ1 σ H1 → RvOk X.K (gm X) M1 σ H H1 x v → AccE X W M1 A1 σ H1 (k x ρ1) Q → Q1 v H1) : SE X e σ H Q1 := by
  refine h ρ M A σ H Q1 rel ?_
  cases g : ev cx c ρ with
  | ok p =>
    rw [g] at acc
    exact fun v H1 M1 A1 s1 r1 h1 => hk p.1 p.2 v H1 M1 A1 s1 (r1.weak h1) h1 (AccE.step acc s1)
  | er x =>
    rw [g] at acc
    exact acc
  | no =>
    rw [g] at acc
    exact acc
theorem SndE.bindT {e : Expr} {c : C} (h : SndE cx X W e c) (rel : Rel X.K (gm X) M A ρ σ H) {k : Rv → Env → R (Rv × Env)} {Q : Bool → Hp → Prop} {Q1 : VK} (acc : AccT X W M A σ H ((ev cx c ρ).bd k) Q)
    (hk : ∀ x ρ1 v H1 M1 A1, Stp M A H M1 A1 H1 → Rel X.K (gm X) M1 A1 ρ1 σ H1 → RvOk X.K (gm X) M1 σ H H1 x v → AccT X W M1 A1 σ H1 (k x ρ1) Q → Q1 v H1) : SE X e σ H Q1 := by
  refine h ρ M A σ H Q1 rel ?_
  cases g : ev cx c ρ with
  | ok p =>
    rw [g] at acc
    exact fun v H1 M1 A1 s1 r1 h1 => hk p.1 p.2 v H1 M1 A1 s1 (r1.weak h1) h1 (AccT.step acc s1)
  | er x =>
    rw [g] at acc
    exact acc
  | no =>
    rw [g] at acc
    exact acc
theorem SndT.bind {e : Expr} {c : C} (h : SndT cx X W e c) (rel : Rel X.K (gm X) M A ρ σ H) {k : Rv → Env → R (Rv × Env)} {Q : VK} {Q1 : Bool → Hp → Prop} (acc : AccE X W M A σ H ((ev cx c ρ).bd k) Q)
    (hk : ∀ b ρ1 H1 M1 A1, Stp M A H M1 A1 H1 → Rel X.K (gm X) M1 A1 ρ1 σ H1 → AccE X W M1 A1 σ H1 (k (.d (.bool b)) ρ1) Q → Q1 b H1) : ST X e σ H Q1 := by
  refine h ρ M A σ H Q1 rel ?_
  cases g : ev cx c ρ with
  | ok p =>
    rw [g] at acc
    intro b H1 M1 A1 e1 s1 r1
    refine hk b p.2 H1 M1 A1 s1 r1 (AccE.step ?_ s1)
    rw [← e1]
    exact acc
  | er x =>
    rw [g] at acc
    exact acc
  | no =>
    rw [g] at acc
    exact acc
theorem SndT.bindT {e : Expr} {c : C} (h : SndT cx X W e c) (rel : Rel X.K (gm X) M A ρ σ H) {k : Rv → Env → R (Rv × Env)} {Q Q1 : Bool → Hp → Prop} (acc : AccT X W M A σ H ((ev cx c ρ).bd k) Q)
    (hk : ∀ b ρ1 H1 M1 A1, Stp M A H M1 A1 H1 → Rel X.K (gm X) M1 A1 ρ1 σ H1 → AccT X W M1 A1 σ H1 (k (.d (.bool b)) ρ1) Q → Q1 b H1) : ST X e σ H Q1 := by
  refine h ρ M A σ H Q1 rel ?_
  cases g : ev cx c ρ with
  | ok p =>
    rw [g] at acc
    intro b H1 M1 A1 e1 s1 r1
    refine hk b p.2 H1 M1 A1 s1 r1 (AccT.step ?_ s1)
    rw [← e1]
    exact acc
  | er x =>
    rw [g] at acc
    exact acc
  | no =>
    rw [g] at acc
    exact acc
theorem SndA.bind {es : List Expr} {c : C} (h : SndA cx X W es c) (rel : Rel X.K (gm X) M A ρ σ H) {k : Rv → Env → R (Rv × Env)} {Q : VK} {Q1 : List V → Hp → Prop} (acc : AccE X W M A σ H ((ev cx c ρ).bd k) Q)
    (hk : ∀ rs ρ1 vs H1 M1 A1, Stp M A H M1 A1 H1 → Rel X.K (gm X) M1 A1 ρ1 σ H1 → RvsOk X.K (gm X) M1 σ H H1 rs vs → AccE X W M1 A1 σ H1 (k (.l rs) ρ1) Q → Q1 vs H1) : SA X es σ H Q1 := by
  refine h ρ M A σ H Q1 rel ?_
  cases g : ev cx c ρ with
  | ok p =>
    rw [g] at acc
    intro rs vs H1 M1 A1 e1 s1 r1 h1 _
    refine hk rs p.2 vs H1 M1 A1 s1 r1 h1 (AccE.step ?_ s1)
    rw [← e1]
    exact acc
  | er x =>
    rw [g] at acc
    exact acc
  | no =>
    rw [g] at acc
    exact acc
/-- a partial step that must succeed -/
theorem AccE.of {α : Type} {o : Option α} {k : α → R (Rv × Env)} {Q : VK} (acc : AccE X W M A σ H (got o k) Q) : ∃ a, o = some a ∧ AccE X W M A σ H (k a) Q := by
  cases o with
  | none => exact acc.elim
  | some a => exact ⟨a, rfl, acc⟩
theorem AccT.of {α : Type} {o : Option α} {k : α → R (Rv × Env)} {Q : Bool → Hp → Prop} (acc : AccT X W M A σ H (got o k) Q) : ∃ a, o = some a ∧ AccT X W M A σ H (k a) Q := by
  cases o with
  | none => exact acc.elim
  | some a => exact ⟨a, rfl, acc⟩
/-- ends -/
theorem AccE.d {d : D} {v : V} {Q : VK} (acc : AccE X W M A σ H (.ok (.d d, ρ)) Q) (rel : Rel X.K (gm X) M A ρ σ H) (h : Rp X.K (gm X) (hid M H) v d) : Q v H := acc v H M A .refl rel h
theorem AccE.newT {ds : List D} {xs : List V} {p : Addr} {ob : Obj} {Q : VK} (acc : AccE X W M A σ H (.ok (.d (.tuple ds), ρ)) Q) (rel : Rel X.K (gm X) M A ρ σ H) (h : RpA X.K (gm X) (hid M H) xs ds) (hp : H p = none) (hd : ob.dict = none) : Q (.ref p) (upd H p (.frz ob (.tup xs))) := by
  have ex : Ex H (upd H p (.frz ob (.tup xs))) := Ex.new hp
  have nm : ¬ M p := fun z => by
    obtain ⟨o, ho⟩ := rel.mh p z
    rw [hp] at ho
    cases ho
  exact acc _ _ M A (.of_ex ex) (rel.ex ex) (Rp.tup (hid_some.mpr ⟨nm, upd_same⟩) hd (h.ex (Ex.hid ex)))
theorem nm_of {a : Addr} (rel : Rel X.K (gm X) M A ρ σ H) (hp : H a = none) : ¬ M a := fun z => by
  obtain ⟨o, ho⟩ := rel.mh a z
  rw [hp] at ho
  cases ho
theorem hid_new {p : Addr} {o : HO} (hp : H p = none) : Ex (hid M H) (hid (fun a => a = p ∨ M a) (upd H p o)) := fun a u e => by
  obtain ⟨n, e⟩ := hid_some.mp e
  have hne : a ≠ p := ne_of_none e hp
  exact hid_some.mpr ⟨fun z => z.elim hne n, by rw [upd_ne hne]; exact e⟩
/-- a new object, hidden from now on -/
theorem Rel.newM {p : Addr} {o : HO} (rel : Rel X.K (gm X) M A ρ σ H) (hp : H p = none) : Rel X.K (gm X) (fun a => a = p ∨ M a) A ρ σ (upd H p o) := by
  have ex : Ex (hid M H) (hid (fun a => a = p ∨ M a) (upd H p o)) := hid_new hp
  refine ⟨rel.len, fun a z => .inr (rel.am a z), fun a z => ?_, fun j e hj => ?_, fun j e hj => ?_, rel.inj⟩
  · by_cases e : a = p
    · exact ⟨o, by rw [e]; exact upd_same⟩
    · obtain ⟨u, hu⟩ := rel.mh a (z.resolve_left e)
      exact ⟨u, by rw [upd_ne e]; exact hu⟩
  · obtain ⟨v, h1, h2⟩ := rel.fz j e hj
    exact ⟨v, h1, h2.ex ex⟩
  · obtain ⟨q, h1, h2, h3⟩ := rel.ow j e hj
    obtain ⟨u, hu⟩ := h3.there
    exact ⟨q, h1, h2, h3.ex ex (upd_ne (ne_of_none hu hp))⟩
theorem AccE.newL {ds : List D} {xs : List V} {p : Addr} {Q : VK} (acc : AccE X W M A σ H (.ok (.f (.list ds), ρ)) Q) (rel : Rel X.K (gm X) M A ρ σ H) (h : RpA X.K (gm X) (hid M H) xs ds) (hp : H p = none) : Q (.ref p) (upd H p (.lst xs)) := by
  have ex : Ex H (upd H p (.lst xs)) := Ex.new hp
  exact acc _ _ M A (.of_ex ex) ⟨p, rfl, fun z => nm_of rel hp (rel.am p z), rel.newM hp⟩ ⟨p, rfl, hp, nm_of rel hp, xs, upd_same, h.ex (hid_new hp)⟩

/-! ### new tuples: the object itself is known -/
theorem Inv.laidT {pins : List (Addr × Obj)} {s : Shared} {h' : Heap} {its : List Value} {xs : List V} {t' : Nat} (I : Inv X pins σ H s) (k : ∀ b u, s.heap.get? b = some u → h'.get? b = some u) (r : Vals xs its) (hz : xs.length ≤ sizeLine) :
    Inv X pins σ (upd H h'.objs.size (.frz { cls := .type "tuple", data := .seq its.toArray } (.tup xs))) { s with heap := h'.push { cls := .type "tuple", data := .seq its.toArray }, toks := t' } := by
  have I1 : Inv X pins σ H { s with heap := h' } := I.kept (t' := s.toks) k
  exact I1.laid (t' := t') (fun b u q => Heap.get?_push_of_some _ q) (Nat.le_refl _) ⟨Heap.get?_push_size _ rfl, hz, its, r, IsTup.new _ _⟩
theorem Inv.freshT {pins : List (Addr × Obj)} {s : Shared} {h' : Heap} (I : Inv X pins σ H s) (k : ∀ b u, s.heap.get? b = some u → h'.get? b = some u) : H h'.objs.size = none := by
  have I1 : Inv X pins σ H { s with heap := h' } := I.kept (t' := s.toks) k
  exact I1.hok.fresh (Nat.le_refl _)
/-- what is wanted of a new tuple of xs -/
def NewT (H : Hp) (xs : List V) (Q : VK) : Prop := ∀ p (o : Obj), H p = none → o.dict = none → Q (.ref p) (upd H p (.frz o (.tup xs)))
def tTupF (t : TA) : TE := fun σ H Q => t σ H fun xs H1 => xs.length ≤ sizeLine ∧ NewT H1 xs Q
theorem pe_tupF {es : List Expr} {t : TA} {k : Nat} {pos : Pos} (h : PA X es t) : PE X (.Tuple es k pos) (tTupF t) := by
  refine ⟨fun pins s σ H Q I hq => ?_⟩
  refine wpAny_Tuple_spliced (thn (h.run pos pins s σ H _ I hq) fun us s1 ⟨xs, H1, I1, r, z, q⟩ => ⟨by rw [← r.length]; exact z, ?_⟩)
  exact ⟨.ref s1.heap.objs.size, _, Inv.laidT (t' := s1.toks) I1 (fun _ _ q => q) r z, rfl, q _ _ I1.fresh rfl⟩
/-- t + u -/
def rCatF (K : PySem.W.Frag) : R2 := fun x y H Q => ∃ a b xs ys, x = .ref a ∧ y = .ref b ∧ SqT K H a xs ∧ SqT K H b ys ∧ xs.length + ys.length ≤ sizeLine ∧
  (xs = [] → Q (.ref b) H) ∧ (ys = [] → Q (.ref a) H) ∧ NewT H (xs ++ ys) Q
theorem op_catF : OpR X (binaryOp .Add) (rCatF X.K) := by
  intro pins s σ H x y v u Q I rx ry h
  obtain ⟨a, b, xs, ys, rfl, rfl, ha, hb, hz, q0, q1, q2⟩ := h
  cases rx
  cases ry
  obtain ⟨its, r1, p1, _⟩ := I.tuple ha
  obtain ⟨its2, r2, p2, _⟩ := I.tuple hb
  by_cases hx : xs = []
  · subst hx
    cases r1
    exact cat_tup0 p1 p2 ⟨.ref b, H, I, rfl, q0 rfl⟩
  · refine HT.cat_tup p1 p2 (fun z => hx (r1.nil_iff.mp z)) (fun z => ⟨.ref a, H, I, rfl, q1 (r2.nil_iff.mp z)⟩) (fun z => ?_) (by rw [← r1.length, ← r2.length]; exact hz)
    exact ⟨.ref s.heap.objs.size, _, Inv.laidT (t' := s.toks) I (fun _ _ q => q) (r1.append r2) (by rw [List.length_append]; exact hz), rfl, q2 _ _ I.fresh rfl⟩
/-- t[lo:hi] -/
def rSlF (K : PySem.W.Frag) : V → Option Int → Option Int → Hp → VK → Prop := fun x lo hi H Q => ∃ a xs, x = .ref a ∧ SqT K H a xs ∧
  (HT.sIx xs.length 0 lo = 0 ∧ HT.sIx xs.length xs.length hi = xs.length → Q (.ref a) H) ∧ NewT H (cutV xs lo hi) Q
theorem sl_tupF : SlR X (rSlF X.K) := by
  intro pins s σ H x v vl vu lo hi sl Q I rx hs pl pu h
  obtain ⟨a, xs, rfl, hx, q1, q2⟩ := h
  cases rx
  obtain ⟨its, r, ht, hz⟩ := I.tuple hx
  have hlen : its.toArray.size = xs.length := by rw [List.size_toArray]; exact r.length.symm
  refine ⟨"tuple", _, PyProof.Rows.slot_tuple_getitem.lookup, ht.typeIs, ?_⟩
  by_cases hw : HT.sIx xs.length 0 lo = 0 ∧ HT.sIx xs.length xs.length hi = xs.length
  · exact getItem_tuple_whole ht hs pl pu (by rw [hlen]; exact hw) ⟨.ref a, H, I, rfl, q1 hw⟩
  · refine HT.getItem_tuple_cut ht hs pl pu (by rw [hlen]; exact hw) ?_ (by rw [hlen]; exact hz)
    rw [hlen]
    exact ⟨.ref s.heap.objs.size, _, Inv.laidT (t' := s.toks) I (fun _ _ q => q) ((r.drop _).take _) (Nat.le_trans (cutV_length xs lo hi) hz), rfl, q2 _ _ I.fresh rfl⟩
/-- tuple(xs), tuple(t) -/
theorem call_tupleF : CallR X (.type "tuple") (fun xs H Q => ∃ p ys, xs = [.ref p] ∧ ((SqL X.K H p ys ∧ NewT H ys Q) ∨ (SqT X.K H p ys ∧ Q (.ref p) H))) := by
  intro pins s σ H xs us Q I r h
  obtain ⟨p, ys, rfl, h⟩ := h
  obtain ⟨u, rfl, rx⟩ := vals1 r
  cases rx
  rcases h with ⟨hq, q⟩ | ⟨hq, q⟩
  · obtain ⟨its, r', pl, hz⟩ := I.list hq
    have hlen := r'.length
    refine call_tuple_list pl.isList (fun h' kp => ?_) (by simp only [List.size_toArray] <;> omega)
    exact ⟨.ref h'.objs.size, _, Inv.laidT (t' := s.toks) I kp r' hz, rfl, q _ _ (Inv.freshT I kp) rfl⟩
  · obtain ⟨its, r', pl, hz⟩ := I.tuple hq
    exact call_tuple_same pl ⟨.ref p, H, I, rfl, q⟩

/-! ### operators -/
/-- the weakest reading of an operation on values -/
def SO (X : Cx) (f : Value → Value → Sem Value) : R2 := fun x y H Q => ∀ pins s σ v u, Inv X pins σ H s → RelV x v → RelV y u → wpAny (model X.prog X.w) X.A (f v u) (EP X pins σ Q) X.xe s
theorem opr_so {X : Cx} {f : Value → Value → Sem Value} : OpR X f (SO X f) := fun pins s σ H x y v u Q I rx ry h => h pins s σ v u I rx ry
theorem so_of {f : Value → Value → Sem Value} {r : R2} (h : OpR X f r) {x y : V} {Q : VK} (q : r x y H Q) : SO X f x y H Q := fun pins s σ v u I rx ry => h pins s σ H x y v u Q I rx ry q
theorem bigL {n : Nat} (h : n ≤ big) : n ≤ sizeLine := Nat.le_trans h (by decide)

theorem binop_ok {o : Operator} {a b : D} {z : Rv} {x y : V} {Q : VK} (e : binop o a b = some z) (rel : Rel X.K (gm X) M A ρ σ H) (hx : RdOk X.K (gm X) M H x a) (hy : RdOk X.K (gm X) M H y b)
    (acc : AccE X W M A σ H (.ok (z, ρ)) Q) : SO X (binaryOp o) x y H Q := by
  unfold binop at e
  split at e
  · cases e
    rw [hx.int, hy.int]
    exact so_of op_add ⟨_, _, rfl, rfl, acc.d rel (.int _)⟩
  · split at e <;> cases e
    rename_i hz
    rw [hx.str, hy.str]
    exact so_of op_add_str ⟨_, _, rfl, rfl, bigL hz, acc.d rel (.str _)⟩
  · split at e <;> cases e
    rename_i hz
    obtain ⟨p, xs, rfl, hp, h1⟩ := hx.lst
    obtain ⟨q, ys, rfl, hq, h2⟩ := hy.lst
    exact so_of op_cat ⟨p, q, xs, ys, rfl, rfl, hp, hq, by rw [h1.length, h2.length]; exact bigL hz, fun l hl => acc.newL rel (h1.append h2) hl⟩
  · split at e <;> cases e
    rename_i hz
    obtain ⟨p, xs, o1, rfl, hp, d1, h1⟩ := hx.tup
    obtain ⟨q, ys, o2, rfl, hq, d2, h2⟩ := hy.tup
    refine so_of op_catF ⟨p, q, xs, ys, rfl, rfl, .inl (.inr ⟨_, hp⟩), .inl (.inr ⟨_, hq⟩), by rw [h1.length, h2.length]; exact bigL hz, fun z => ?_, fun z => ?_, fun l o hl ho => acc.newT rel (h1.append h2) hl ho⟩
    · subst z
      cases h1
      rcases hy with hy | ⟨_, _, hy⟩
      · exact acc.d rel hy
      · exact hy.elim
    · subst z
      cases h2
      rcases hx with hx | ⟨_, _, hx⟩
      · rw [List.append_nil] at acc
        exact acc.d rel hx
      · exact hx.elim
  · cases e
    rw [hx.int, hy.int]
    exact so_of op_sub ⟨_, _, rfl, rfl, acc.d rel (.int _)⟩
  · split at e <;> cases e
    rename_i hz
    rw [hx.int, hy.int]
    exact so_of op_mulW ⟨_, _, rfl, rfl, wide_mul hz.1 hz.2 (by decide) (by decide) (by decide), acc.d rel (.int _)⟩
  · split at e <;> cases e
    rename_i hz
    obtain ⟨p, xs, rfl, hp, h1⟩ := hx.lst
    rw [hy.int]
    obtain ⟨z1, z2, z3⟩ := hz
    refine so_of op_rep ⟨p, _, xs, rfl, rfl, hp, by omega, by omega, ?_, fun l hl => acc.newL rel (h1.rep _) hl⟩
    rw [h1.length]
    exact Nat.le_trans (Nat.mul_le_mul z3 (show _ ≤ 1000 by omega)) (by decide)
  · split at e <;> cases e
    rename_i hz
    rw [hx.int, hy.int]
    exact so_of op_fdivW ⟨_, _, rfl, rfl, wide_div hz.1 hz.2 (by decide) (by decide), acc.d rel (.int _)⟩
  · split at e <;> cases e
    rename_i hz
    rw [hx.int, hy.int]
    exact so_of op_mod ⟨_, _, rfl, rfl, hz, acc.d rel (.int _)⟩
  · split at e <;> cases e
    rename_i hz
    rw [hx.int, hy.int]
    exact so_of op_pow ⟨_, _, rfl, rfl, ⟨hz.1, by omega, hz.2.2⟩, acc.d rel (.int _)⟩
  · cases e
theorem snd_op {a b : Expr} {ca cb : C} {o : Operator} {pos : Pos} (ha : SndE cx X W a ca) (hb : SndE cx X W b cb) : SndE cx X W (.BinOp a o b pos) (.op o ca cb) := by
  intro ρ M A σ H Q rel acc
  refine se_of (pe_op opr_so pe_se pe_se) (ha.bind rel acc fun x ρ1 v H1 M1 A1 s1 r1 h1 acc1 => hb.bind r1 acc1 fun y ρ2 u H2 M2 A2 s2 r2 h2 acc2 => ?_)
  obtain ⟨dx, ex, acc2⟩ := acc2.of
  obtain ⟨dy, ey, acc2⟩ := acc2.of
  obtain ⟨z, ez, acc2⟩ := acc2.of
  exact binop_ok ez r2 (read_ok r2 (h1.step s2 r1.am) ex) (read_ok r2 h2 ey) acc2
end
end Iv
set_option maxRecDepth 100000
set_option maxHeartbeats 4000000
/-! Iv2d: dicts: what is read, what is put. -/
namespace Iv
open PySem PySem.Spec PyProof.Rows L2

/-! ### keys as data -/
theorem eqv_kD (a b : Key) : PyData.eqv (kD a) (kD b) = decide (a = b) := by
  cases a with
  | inl i => cases b with
    | inl j => rw [key_ll]; rfl
    | inr y => rw [key_lr]; rfl
  | inr x => cases b with
    | inl j => rw [key_rl]; rfl
    | inr y => rw [key_rr]; show (x == y) = _; exact Bool.beq_eq_decide_eq ..
theorem eqvAll_kD : ∀ a b : List Key, PyData.eqvAll (a.map kD) (b.map kD) = decide (a = b)
  | [], [] => rfl
  | [], _ :: _ => rfl
  | _ :: _, [] => rfl
  | x :: a, y :: b => by
    show (PyData.eqv (kD x) (kD y) && PyData.eqvAll (a.map kD) (b.map kD)) = _
    rw [eqv_kD, eqvAll_kD a b]
    by_cases h : x = y <;> by_cases h2 : a = b <;> simp [h, h2]
theorem eqv_kT (a b : List Key) : PyData.eqv (.tuple (a.map kD)) (.tuple (b.map kD)) = decide (a = b) := eqvAll_kD a b
theorem key0_kD (k : Key) : key0 (kD k) = true := by cases k <;> rfl
theorem key1_kD (k : Key) : key1 (kD k) = false := by cases k <;> rfl
theorem key0_of {d : D} (h : key0 d = true) : ∃ k, d = kD k := by
  cases d with
  | int i => exact ⟨.inl i, rfl⟩
  | str x => exact ⟨.inr x, rfl⟩
  | none => cases h
  | bool _ => cases h
  | list _ => cases h
  | tuple _ => cases h
  | dict _ => cases h
theorem keys0_of : ∀ {xs : List D}, xs.all key0 = true → ∃ ks : List Key, xs = ks.map kD
  | [], _ => ⟨[], rfl⟩
  | x :: xs, h => by
    rw [List.all_cons, Bool.and_eq_true] at h
    obtain ⟨k, rfl⟩ := key0_of h.1
    obtain ⟨ks, rfl⟩ := keys0_of h.2
    exact ⟨k :: ks, rfl⟩
theorem key1_of {d : D} (h : key1 d = true) : ∃ ks : List Key, d = .tuple (ks.map kD) := by
  cases d with
  | tuple xs =>
    obtain ⟨ks, rfl⟩ := keys0_of h
    exact ⟨ks, rfl⟩
  | int i => cases h
  | str x => cases h
  | none => cases h
  | bool _ => cases h
  | list _ => cases h
  | dict _ => cases h
theorem key01 {d : D} (h0 : key0 d = true) (h1 : key1 d = true) : False := by
  obtain ⟨k, rfl⟩ := key0_of h0
  rw [key1_kD] at h1
  cases h1
theorem key1_kT (ks : List Key) : key1 (.tuple (ks.map kD)) = true := by
  show (ks.map kD).all key0 = true
  rw [List.all_map, List.all_eq_true]
  exact fun k _ => key0_kD k

/-! ### pairs of data and pairs of values -/
section
variable {κ : Type} [DecidableEq κ] {f : κ → D} {K : PySem.W.Frag} {mg : MG} {H : Hp}
theorem dval_nil {k : D} : dval [] k = none := rfl
theorem dval_cons {p : D × D} {r : List (D × D)} {k : D} : dval (p :: r) k = if PyData.eqv p.1 k = true then some p.2 else dval r k := by
  unfold dval
  rw [List.find?_cons]
  cases h : PyData.eqv p.1 k <;> simp
theorem RpP.val (hf : ∀ a b, PyData.eqv (f a) (f b) = decide (a = b)) {k : κ} : ∀ {kvs : List (κ × V)} {ds : List (D × D)}, RpP K mg H (kvs.map fun p => (f p.1, p.2)) ds →
    (valV kvs k = none ∧ dval ds (f k) = none) ∨ ∃ v d, valV kvs k = some v ∧ dval ds (f k) = some d ∧ Rp K mg H v d
  | [], _, h => by
    cases h
    exact .inl ⟨rfl, rfl⟩
  | p :: kvs, _, h => by
    rw [List.map_cons] at h
    cases h with
    | cons h r =>
      rw [dval_cons, hf]
      by_cases e : p.1 = k
      · rw [valV_pos e, if_pos (decide_eq_true e)]
        exact .inr ⟨_, _, rfl, rfl, h⟩
      · rw [valV_neg e, if_neg (by simpa using e)]
        exact RpP.val hf r
theorem RpP.anyk (hf : ∀ a b, PyData.eqv (f a) (f b) = decide (a = b)) {k : κ} : ∀ {kvs : List (κ × V)} {ds : List (D × D)}, RpP K mg H (kvs.map fun p => (f p.1, p.2)) ds →
    (kvs.any fun kv => decide (kv.1 = k)) = ds.any fun kv => PyData.eqv kv.1 (f k)
  | [], _, h => by cases h; rfl
  | p :: kvs, _, h => by
    rw [List.map_cons] at h
    cases h with
    | cons h r =>
      rw [List.any_cons, List.any_cons, RpP.anyk hf r, hf]
theorem RpP.append {a b : List (D × V)} {c d : List (D × D)} (h : RpP K mg H a c) (g : RpP K mg H b d) : RpP K mg H (a ++ b) (c ++ d) := by
  induction a generalizing c with
  | nil => cases h; exact g
  | cons x a ih => cases h with | cons h r => exact .cons h (ih r)
theorem RpP.repl (hf : ∀ a b, PyData.eqv (f a) (f b) = decide (a = b)) {k : κ} {v : V} {d : D} (hv : Rp K mg H v d) : ∀ {kvs : List (κ × V)} {ds : List (D × D)}, RpP K mg H (kvs.map fun p => (f p.1, p.2)) ds →
    RpP K mg H ((kvs.map fun kv => if kv.1 = k then (kv.1, v) else kv).map fun p => (f p.1, p.2)) (ds.map fun kv => if PyData.eqv kv.1 (f k) = true then (kv.1, d) else kv)
  | [], _, h => by cases h; exact .nil
  | p :: kvs, _, h => by
    rw [List.map_cons] at h
    cases h with
    | cons h r =>
      rw [List.map_cons, List.map_cons, List.map_cons, hf]
      by_cases e : p.1 = k
      · rw [if_pos e, if_pos (decide_eq_true e)]
        exact .cons hv (RpP.repl hf hv r)
      · rw [if_neg e, if_neg (by simpa using e)]
        exact .cons h (RpP.repl hf hv r)
theorem RpP.put (hf : ∀ a b, PyData.eqv (f a) (f b) = decide (a = b)) {k : κ} {v : V} {d : D} (hv : Rp K mg H v d) {kvs : List (κ × V)} {ds : List (D × D)} (h : RpP K mg H (kvs.map fun p => (f p.1, p.2)) ds) :
    RpP K mg H ((putK kvs k v).map fun p => (f p.1, p.2)) (dput ds (f k) d) := by
  unfold putK dput
  rw [RpP.anyk hf h]
  split
  · exact RpP.repl hf hv h
  · rw [List.map_append]
    exact h.append (.cons hv .nil)
end
theorem RpA.kV {K : PySem.W.Frag} {mg : MG} {H : Hp} : ∀ {ks : List Key} {vs : List V}, RpA K mg H vs (ks.map kD) → vs = ks.map L2.kV
  | [], _, h => by cases h; rfl
  | k :: ks, _, h => by
    cases h with
    | cons h r =>
      rw [RpA.kV r]
      cases k <;> (cases h; rfl)
theorem Rp.kV {K : PySem.W.Frag} {mg : MG} {H : Hp} {k : Key} {v : V} (h : Rp K mg H v (kD k)) : v = L2.kV k := by
  cases k <;> (cases h; rfl)
section
variable {X : Cx} {pins : List (Addr × Obj)} {σ : St} {H : Hp} {s : Shared} {A : Around} {E : Value → Shared → Prop}
/-- a tuple of atoms is a key -/
theorem keyT_of (I : Inv X pins σ H s) {b : Addr} {ks : List Key} (h : Rp X.K (gm X) H (.ref b) (.tuple (ks.map kD))) : (tupleKind (mixKind X.prog X.w)).is s.heap ks b := by
  generalize hd : PyData.tuple (ks.map kD) = d at h
  cases h with
  | tup h1 h2 r =>
    cases hd
    rw [r.kV] at h1
    obtain ⟨_, _, its, rv, o, e1, e2, n, e3⟩ := (show ObjOk X.prog X.w H s.heap b (.frz _ (.tup (ks.map L2.kV))) from I.hok b _ h1)
    exact ⟨o, its.toArray, n, e1, e2, e3, by simpa using items_are rv⟩
  | lst _ _ => cases hd
  | dK _ _ => cases hd
  | dT _ _ _ => cases hd
  | fn _ => cases hd
  | scr _ => cases hd
theorem dkI {a : Addr} {o : Obj} {kvs : List (Key × V)} (I : Inv X pins σ H s) (h : H a = some (DKo (gm X) a o kvs)) : kvs.length ≤ sizeLine ∧ (a == sysModules) = false ∧ ∃ vs, KV kvs vs ∧ s.heap.DictOf (mixKind X.prog X.w) a vs := by
  obtain ⟨⟨h1, h2, h3, h4, es, ep, vs, h5, h6, h7, h8, h9⟩, _⟩ := (show ObjOk X.prog X.w H s.heap a (DKo (gm X) a o kvs) from I.hok a _ h)
  exact ⟨h2, h3, vs, h6, o, es, ep, h1, h4, h5, h7, h8, h9⟩
theorem keysT {G : Hp} (I : Inv X pins σ H s) (ex : Ex G H) : ∀ {xs : List (List Key × Addr × V)} {ys : List (List Key × Addr × Value)}, Paired (fun x y => x.1 = y.1 ∧ x.2.1 = y.2.1 ∧ RelV x.2.2 y.2.2) xs ys → RpA X.K (gm X) G (xs.map fun p => .ref p.2.1) (xs.map fun p => .tuple (p.1.map kD)) →
    ∀ y ∈ ys, (tupleKind (mixKind X.prog X.w)).is s.heap y.1 y.2.1
  | [], _, .nil, _, y, hy => nomatch hy
  | x :: xs, _, .cons h t, r, y, hy => by
    rw [List.map_cons, List.map_cons] at r
    cases r with
    | cons h2 r =>
      rcases List.mem_cons.mp hy with e | hy
      · subst e
        rw [← h.1, ← h.2.1]
        exact keyT_of I (h2.ex ex)
      · exact keysT I ex t r y hy
theorem dtI {G : Hp} {a : Addr} {o : Obj} {xs : List (List Key × Addr × V)} (I : Inv X pins σ H s) (h : H a = some (DTo (gm X) a o xs)) (ex : Ex G H) (hk : RpA X.K (gm X) G (xs.map fun p => .ref p.2.1) (xs.map fun p => .tuple (p.1.map kD))) :
    xs.length ≤ sizeLine ∧ (a == sysModules) = false ∧ ∃ ys, Paired (fun x y => x.1 = y.1 ∧ x.2.1 = y.2.1 ∧ RelV x.2.2 y.2.2) xs ys ∧ s.heap.DictOfH (tupleKind (mixKind X.prog X.w)) a ys := by
  obtain ⟨⟨h1, h2, h3, h4, es, ep, ys, h5, h6, h7, h8⟩, _⟩ := (show ObjOk X.prog X.w H s.heap a (DTo (gm X) a o xs) from I.hok a _ h)
  exact ⟨h2, h3, ys, h6, o, es, ep, h1, h4, h5, h7, keysT I ex h6 hk, h8⟩
/-- the table as the key's kind asks -/
inductive DAs (X : Cx) (G H : Hp) (s : Shared) (a : Addr) (ds : List (D × D)) (y : V) (k : D) : Prop
  | K (kvs : List (Key × V)) (vs : List (Key × Value)) (q : Key) : k = kD q → y = kV q → kvs.length ≤ sizeLine → (a == sysModules) = false → KV kvs vs → s.heap.DictOf (mixKind X.prog X.w) a vs → RpP X.K (gm X) G (kvs.map fun p => (kD p.1, p.2)) ds → DAs X G H s a ds y k
  | T (xs : List (List Key × Addr × V)) (ys : List (List Key × Addr × Value)) (q : List Key) (b : Addr) : k = .tuple (q.map kD) → y = .ref b → (tupleKind (mixKind X.prog X.w)).is s.heap q b → xs.length ≤ sizeLine → (a == sysModules) = false →
      Paired (fun x y => x.1 = y.1 ∧ x.2.1 = y.2.1 ∧ RelV x.2.2 y.2.2) xs ys → s.heap.DictOfH (tupleKind (mixKind X.prog X.w)) a ys → RpA X.K (gm X) G (xs.map fun p => .ref p.2.1) (xs.map fun p => .tuple (p.1.map kD)) → RpP X.K (gm X) G (xs.map fun p => (.tuple (p.1.map kD), p.2.2)) ds → DAs X G H s a ds y k
/-- what stands at a: a dict known by its content in G -/
def DictAtG (X : Cx) (G H : Hp) (a : Addr) (ds : List (D × D)) : Prop :=
  (∃ (o : Obj) (kvs : List (Key × V)), H a = some (DKo (gm X) a o kvs) ∧ RpP X.K (gm X) G (kvs.map fun q => (kD q.1, q.2)) ds) ∨
  ∃ (o : Obj) (xs : List (List Key × Addr × V)), H a = some (DTo (gm X) a o xs) ∧ RpA X.K (gm X) G (xs.map fun p => .ref p.2.1) (xs.map fun p => .tuple (p.1.map kD)) ∧ RpP X.K (gm X) G (xs.map fun q => (.tuple (q.1.map kD), q.2.2)) ds
theorem RpP.nilD {K : PySem.W.Frag} {mg : MG} {vs : List (D × V)} (h : RpP K mg H vs []) : vs = [] := by cases h; rfl
theorem all_key {p : D → Bool} {g : κ → D} {c : κ → V} {K : PySem.W.Frag} {mg : MG} : ∀ {kvs : List κ} {ds : List (D × D)}, RpP K mg H (kvs.map fun q => (g q, c q)) ds → (ds.all fun q => p q.1) = kvs.all fun q => p (g q)
  | [], _, h => by cases h; rfl
  | q :: kvs, _, h => by
    rw [List.map_cons] at h
    cases h with
    | cons h r => rw [List.all_cons, List.all_cons, all_key (p := p) (kvs := kvs) r]
theorem empties (h : s.heap.DictOf (mixKind X.prog X.w) a []) : s.heap.DictOfH (tupleKind (mixKind X.prog X.w)) a [] := by
  obtain ⟨o, es, ep, h1, h2, h3, h4, h5, h6⟩ := h
  refine ⟨o, es, ep, h1, h2, h3, ?_, fun x hx => (nomatch hx), List.nodup_nil⟩
  generalize es.toList = l at h5
  cases h5
  rfl
theorem emptiesK (h : s.heap.DictOfH (tupleKind (mixKind X.prog X.w)) a []) : s.heap.DictOf (mixKind X.prog X.w) a [] := by
  obtain ⟨o, es, ep, h1, h2, h3, h4, h5, h6⟩ := h
  have e : es.toList = [] := h4
  refine ⟨o, es, ep, h1, h2, h3, fun x hx => ?_, by rw [e]; exact .nil, List.nodup_nil⟩
  have : x ∈ es.toList := Array.mem_toList_iff.mpr hx
  rw [e] at this
  cases this
theorem dAs {G : Hp} {a : Addr} {ds : List (D × D)} {y : V} {k : D} (I : Inv X pins σ H s) (ex : Ex G H) (h : DictAtG X G H a ds) (hy : Rp X.K (gm X) G y k) (hk : keyOk ds k = true) : DAs X G H s a ds y k := by
  unfold keyOk at hk
  rw [Bool.or_eq_true, Bool.and_eq_true, Bool.and_eq_true] at hk
  rcases h with ⟨o, kvs, ha, r⟩ | ⟨o, xs, ha, rk, r⟩
  · obtain ⟨z, hm, vs, kv, dd⟩ := dkI I ha
    rcases hk with ⟨k0, _⟩ | ⟨k1, hall⟩
    · obtain ⟨q, rfl⟩ := key0_of k0
      exact .K kvs vs q rfl hy.kV z hm kv dd r
    · obtain ⟨q, rfl⟩ := key1_of k1
      have e : kvs = [] := by
        cases kvs with
        | nil => rfl
        | cons p t =>
          rw [all_key (p := key1) (g := fun p : Key × V => kD p.1) (c := fun p => p.2) r, List.all_cons, key1_kD] at hall
          cases hall
      subst e
      cases kv
      cases r
      generalize hd : PyData.tuple (q.map kD) = d at hy
      have hy0 := hy
      cases hy with
      | tup h1 h2 h3 => exact .T [] [] q _ hd.symm rfl (keyT_of I (by rw [hd]; exact hy0.ex ex)) (Nat.zero_le _) hm .nil (empties dd) .nil .nil
      | non => cases hd
      | bl _ => cases hd
      | int _ => cases hd
      | str _ => cases hd
      | lst _ _ => cases hd
      | dK _ _ => cases hd
      | dT _ _ _ => cases hd
      | fn _ => cases hd
      | scr _ => cases hd
  · obtain ⟨z, hm, ys, kv, dd⟩ := dtI I ha ex rk
    rcases hk with ⟨k0, hall⟩ | ⟨k1, _⟩
    · obtain ⟨q, rfl⟩ := key0_of k0
      have e : xs = [] := by
        cases xs with
        | nil => rfl
        | cons p t =>
          rw [all_key (p := key0) (g := fun p : List Key × Addr × V => .tuple (p.1.map kD)) (c := fun p => p.2.2) r, List.all_cons] at hall
          cases hall
      subst e
      cases kv
      cases r
      exact .K [] [] q rfl hy.kV (Nat.zero_le _) hm .nil (emptiesK dd) .nil
    · obtain ⟨q, rfl⟩ := key1_of k1
      generalize hd : PyData.tuple (q.map kD) = d at hy
      have hy0 := hy
      cases hy with
      | tup h1 h2 h3 => exact .T xs ys q _ hd.symm rfl (keyT_of I (by rw [hd]; exact hy0.ex ex)) z hm kv dd rk r
      | non => cases hd
      | bl _ => cases hd
      | int _ => cases hd
      | str _ => cases hd
      | lst _ _ => cases hd
      | dK _ _ => cases hd
      | dT _ _ _ => cases hd
      | fn _ => cases hd
      | scr _ => cases hd
end
end Iv
set_option maxRecDepth 100000
set_option maxHeartbeats 4000000
/-! Iv2e: dicts read and written. -/
namespace Iv
open PySem PySem.Spec PyProof.Rows L2
abbrev PT : List (List Key × Addr × V) → List (List Key × Addr × Value) → Prop := Paired fun x y => x.1 = y.1 ∧ x.2.1 = y.2.1 ∧ RelV x.2.2 y.2.2
def plainT2 (xs : List (List Key × Addr × V)) : List (List Key × V) := xs.map fun p => (p.1, p.2.2)
theorem T_val {xs : List (List Key × Addr × V)} {ys : List (List Key × Addr × Value)} (r : PT xs ys) (k : List Key) : RelO (valV (plainT2 xs) k) ((atKey ys k).map (·.2)) := by
  induction r with
  | nil => exact True.intro
  | @cons p q ps qs h t ih =>
    obtain ⟨h1, _, h2⟩ := h
    unfold plainT2 at ih ⊢
    rw [List.map_cons]
    by_cases e : p.1 = k
    · have e' : q.1 = k := h1.symm.trans e
      have b : atKey (q :: qs) k = some q.2 := by simp [atKey, List.find?_cons, e']
      rw [valV_pos (p := (p.1, p.2.2)) e, b]; exact h2
    · have e' : ¬ q.1 = k := fun z => e (h1.trans z)
      have b : atKey (q :: qs) k = atKey qs k := by simp [atKey, List.find?_cons, e']
      rw [valV_neg (p := (p.1, p.2.2)) e, b]; exact ih
def putT (xs : List (List Key × Addr × V)) (q : List Key) (b : Addr) (v : V) : List (List Key × Addr × V) :=
  if (xs.any fun p => decide (p.1 = q)) = true then xs.map fun p => if p.1 = q then (p.1, p.2.1, v) else p else xs ++ [(q, b, v)]
theorem any_plain {xs : List (List Key × Addr × V)} {q : List Key} : ((plainT2 xs).any fun p => decide (p.1 = q)) = xs.any fun p => decide (p.1 = q) := by
  unfold plainT2
  rw [List.any_map]
  rfl
theorem plain_put {xs : List (List Key × Addr × V)} {q : List Key} {b : Addr} {v : V} : plainT2 (putT xs q b v) = putK (plainT2 xs) q v := by
  unfold putT putK
  rw [any_plain]
  split
  · unfold plainT2
    rw [List.map_map, List.map_map]
    apply List.map_congr_left
    intro p _
    show ((if p.1 = q then (p.1, p.2.1, v) else p).1, (if p.1 = q then (p.1, p.2.1, v) else p).2.2) = if p.1 = q then (p.1, v) else (p.1, p.2.2)
    split <;> rfl
  · unfold plainT2
    rw [List.map_append]
    rfl
theorem PT.map {xs : List (List Key × Addr × V)} {ys : List (List Key × Addr × Value)} (r : PT xs ys) (q : List Key) {v : V} {u : Value} (rv : RelV v u) : PT (xs.map fun p => if p.1 = q then (p.1, p.2.1, v) else p) (ys.map (putAt q u)) := by
  induction r with
  | nil => exact .nil
  | @cons p p2 ps qs h t ih =>
    rw [List.map_cons, List.map_cons]
    refine .cons ?_ ih
    obtain ⟨h1, h2, h3⟩ := h
    unfold putAt
    by_cases e : p.1 = q
    · rw [if_pos e, if_pos (h1.symm.trans e)]; exact ⟨h1, h2, rv⟩
    · rw [if_neg e, if_neg (fun z => e (h1.trans z))]; exact ⟨h1, h2, h3⟩
theorem PT.put {xs : List (List Key × Addr × V)} {ys : List (List Key × Addr × Value)} (r : PT xs ys) (q : List Key) {b : Addr} {v : V} {u : Value} (rv : RelV v u) : PT (putT xs q b v) (storedH ys q b u) := by
  have e : (xs.any fun p => decide (p.1 = q)) = (atKey ys q).isSome := by
    rw [← any_plain, valV_any, (T_val r q).isSome_eq, Option.isSome_map]
  unfold putT storedH
  rw [e]
  split
  · exact PT.map r q rv
  · exact Paired.snoc r ⟨rfl, rfl, rv⟩
theorem putT_len (xs : List (List Key × Addr × V)) (q : List Key) (b : Addr) (v : V) : (putT xs q b v).length ≤ xs.length + 1 := by
  unfold putT
  split
  · rw [List.length_map]; omega
  · rw [List.length_append, List.length_singleton]; exact Nat.le_refl _
theorem putT_keys {K : PySem.W.Frag} {mg : MG} {G : Hp} {xs : List (List Key × Addr × V)} {q : List Key} {b : Addr} {v : V} (h : RpA K mg G (xs.map fun p => .ref p.2.1) (xs.map fun p => .tuple (p.1.map kD))) (hb : Rp K mg G (.ref b) (.tuple (q.map kD))) :
    RpA K mg G ((putT xs q b v).map fun p => .ref p.2.1) ((putT xs q b v).map fun p => .tuple (p.1.map kD)) := by
  unfold putT
  split
  · rw [List.map_map, List.map_map]
    have e1 : (xs.map ((fun p : List Key × Addr × V => V.ref p.2.1) ∘ fun p => if p.1 = q then (p.1, p.2.1, v) else p)) = xs.map fun p => .ref p.2.1 := List.map_congr_left fun p _ => by
      show V.ref (if p.1 = q then (p.1, p.2.1, v) else p).2.1 = _
      split <;> rfl
    have e2 : (xs.map ((fun p : List Key × Addr × V => PyData.tuple (p.1.map kD)) ∘ fun p => if p.1 = q then (p.1, p.2.1, v) else p)) = xs.map fun p => .tuple (p.1.map kD) := List.map_congr_left fun p _ => by
      show PyData.tuple ((if p.1 = q then (p.1, p.2.1, v) else p).1.map kD) = _
      split <;> rfl
    rw [e1, e2]
    exact h
  · rw [List.map_append, List.map_append]
    exact h.append (.cons hb .nil)
theorem RpP.plain {K : PySem.W.Frag} {mg : MG} {G : Hp} {xs : List (List Key × Addr × V)} {ds : List (D × D)} : RpP K mg G (xs.map fun p => (.tuple (p.1.map kD), p.2.2)) ds ↔ RpP K mg G ((plainT2 xs).map fun p => (.tuple (p.1.map kD), p.2)) ds := by
  unfold plainT2
  rw [List.map_map]
  exact Iff.rfl
section
variable {X : Cx} {pins : List (Addr × Obj)} {σ : St} {G H : Hp} {s : Shared} {A : Around} {E : Value → Shared → Prop} {a : Addr} {ds : List (D × D)} {y : V} {k : D} {u : Value}
/-- what the dict holds there -/
inductive DHas (X : Cx) (G : Hp) (ds : List (D × D)) (k : D) : Option Value → Prop
  | no : dval ds k = none → DHas X G ds k none
  | yes (v : V) (d : D) (r : Value) : dval ds k = some d → Rp X.K (gm X) G v d → RelV v r → DHas X G ds k (some r)
theorem hasK {kvs : List (Key × V)} {vs : List (Key × Value)} {q : Key} (kv : KV kvs vs) (r : RpP X.K (gm X) G (kvs.map fun p => (kD p.1, p.2)) ds) : DHas X G ds (kD q) (valueAt vs q) := by
  have rel := kv.val q
  rcases RpP.val eqv_kD (k := q) r with ⟨h1, h2⟩ | ⟨v, d, h1, h2, h3⟩
  · rw [h1] at rel
    cases e : valueAt vs q with
    | none => exact .no h2
    | some w => rw [e] at rel; exact (show False from rel).elim
  · rw [h1] at rel
    cases e : valueAt vs q with
    | none => rw [e] at rel; exact (show False from rel).elim
    | some w => rw [e] at rel; exact .yes v d w h2 h3 rel
theorem hasT {xs : List (List Key × Addr × V)} {ys : List (List Key × Addr × Value)} {q : List Key} (kv : PT xs ys) (r : RpP X.K (gm X) G (xs.map fun p => (.tuple (p.1.map kD), p.2.2)) ds) : DHas X G ds (.tuple (q.map kD)) ((atKey ys q).map (·.2)) := by
  have rel := T_val kv q
  rcases RpP.val (f := fun q => .tuple (q.map kD)) eqv_kT (k := q) (RpP.plain.mp r) with ⟨h1, h2⟩ | ⟨v, d, h1, h2, h3⟩
  · rw [h1] at rel
    cases e : (atKey ys q).map (·.2) with
    | none => exact .no h2
    | some w => rw [e] at rel; exact (show False from rel).elim
  · rw [h1] at rel
    cases e : (atKey ys q).map (·.2) with
    | none => rw [e] at rel; exact (show False from rel).elim
    | some w => rw [e] at rel; exact .yes v d w h2 h3 rel
theorem DHas.isSome {o : Option Value} (h : DHas X G ds k o) : o.isSome = (dval ds k).isSome := by
  cases h with
  | no h => rw [h]; rfl
  | yes v d r h1 _ _ => rw [h1]; rfl
theorem dI_item {Q : Value → Shared → Prop} {d : D} (hu : A.units + 1 < cLine) (I : Inv X pins σ H s) (das : DAs X G H s a ds y k) (ry : RelV y u) (hd : dval ds k = some d) (h : ∀ v w' s', Inv X pins σ H s' → Rp X.K (gm X) G v d → RelV v w' → Q w' s') :
    wpAny (model X.prog X.w) A (getItem (.ref a) u) Q E s := by
  cases das with
  | K kvs vs q hk hy z hm kv dd r =>
    subst hk hy
    have hh := hasK (q := q) kv r
    cases e : valueAt vs q with
    | none => rw [e] at hh; cases hh with | no h2 => rw [hd] at h2; cases h2
    | some w =>
      rw [e] at hh
      cases hh with
      | yes v d2 _ h1 h2 h3 =>
        rw [hd] at h1
        cases h1
        exact wpAny_getItem_of (kV_is ry) dd.mapOf e (h v w _ (I.tok _) h2 h3)
  | T xs ys q b hk hy hb z hm kv dd rk r =>
    subst hk hy
    cases (show u = Value.ref b from ry)
    have hh := hasT (q := q) kv r
    cases e : (atKey ys q).map (·.2) with
    | none => rw [e] at hh; cases hh with | no h2 => rw [hd] at h2; cases h2
    | some w =>
      rw [e] at hh
      cases hh with
      | yes v d2 _ h1 h2 h3 =>
        rw [hd] at h1
        cases h1
        obtain ⟨p, hp, hp2⟩ := Option.map_eq_some_iff.mp e
        refine wpAny_getItem_heap (tupleKind_room_in1 hu) hb dd hp ?_
        rw [hp2]
        exact h v w _ (I.tok _) h2 h3
theorem dI_in {Q : Value → Shared → Prop} (hu : A.units + 1 < cLine) (I : Inv X pins σ H s) (das : DAs X G H s a ds y k) (ry : RelV y u) (h : ∀ s', Inv X pins σ H s' → Q (.bool (dval ds k).isSome) s') :
    wpAny (model X.prog X.w) A (compareOp .In u (.ref a)) Q E s := by
  cases das with
  | K kvs vs q hk hy z hm kv dd r =>
    subst hk hy
    refine wpAny_in_of (kV_is ry) hm dd.mapOf ?_
    rw [(hasK (q := q) kv r).isSome]
    exact h _ (I.tok _)
  | T xs ys q b hk hy hb z hm kv dd rk r =>
    subst hk hy
    cases (show u = Value.ref b from ry)
    refine wpAny_in_heap (tupleKind_room_in1 hu) hb hm dd ?_
    have q2 := (hasT (q := q) kv r).isSome
    rw [Option.isSome_map] at q2
    rw [q2]
    exact h _ (I.tok _)
theorem dI_notIn {Q : Value → Shared → Prop} (hu : A.units + 1 < cLine) (I : Inv X pins σ H s) (das : DAs X G H s a ds y k) (ry : RelV y u) (h : ∀ s', Inv X pins σ H s' → Q (.bool (!(dval ds k).isSome)) s') :
    wpAny (model X.prog X.w) A (compareOp .NotIn u (.ref a)) Q E s := by
  cases das with
  | K kvs vs q hk hy z hm kv dd r =>
    subst hk hy
    refine wpAny_notIn_of (kV_is ry) hm dd.mapOf ?_
    rw [(hasK (q := q) kv r).isSome]
    exact h _ (I.tok _)
  | T xs ys q b hk hy hb z hm kv dd rk r =>
    subst hk hy
    cases (show u = Value.ref b from ry)
    refine wpAny_notIn_heap (tupleKind_room_in1 hu) hb hm dd ?_
    have q2 := (hasT (q := q) kv r).isSome
    rw [Option.isSome_map] at q2
    rw [q2]
    exact h _ (I.tok _)
/-- d.get(k, x) -/
theorem dI_get2 {Q : Value → Shared → Prop} {x : D} {vx : V} {rx : Value} (hu : A.units + 1 < cLine) (I : Inv X pins σ H s) (das : DAs X G H s a ds y k) (ry : RelV y u) (hx : Rp X.K (gm X) G vx x) (rvx : RelV vx rx)
    (h : ∀ v w' s', Inv X pins σ H s' → Rp X.K (gm X) G v ((dval ds k).getD x) → RelV v w' → Q w' s') :
    wpAny (model X.prog X.w) A (call (.builtin "dict.get") [.ref a, u, rx]) Q E s := by
  cases das with
  | K kvs vs q hk hy z hm kv dd r =>
    subst hk hy
    have hh := hasK (q := q) kv r
    refine call_meetsIn PySem.F.slot_dict_get dd.typeIs PySem.F.entry_dict_get (PySem.F.args_dict_get_3 _ _ _) (meets_dict_get_default (mixKind X.prog X.w) a (kV_is ry) hm rx) ⟨_, dd.mapOf, ?_⟩
    cases e : valueAt vs q with
    | none =>
      rw [e] at hh
      cases hh with
      | no h2 => rw [h2] at h; exact h vx rx _ (I.tok _) hx rvx
    | some w =>
      rw [e] at hh
      cases hh with
      | yes v d _ h1 h2 h3 => rw [h1] at h; exact h v w _ (I.tok _) h2 h3
  | T xs ys q b hk hy hb z hm kv dd rk r =>
    subst hk hy
    cases (show u = Value.ref b from ry)
    have hh := hasT (q := q) kv r
    refine call_meetsIn PySem.F.slot_dict_get dd.typeIs PySem.F.entry_dict_get (PySem.F.args_dict_get_3 _ _ _) (meetsH_dict_get_default (tupleKind (mixKind X.prog X.w)) a b hm rx) ⟨tupleKind_room_in1 hu, q, ys, hb, dd, ?_⟩
    cases e : (atKey ys q).map (·.2) with
    | none =>
      rw [e] at hh
      cases hh with
      | no h2 => rw [h2] at h; exact h vx rx _ (I.tok _) hx rvx
    | some w =>
      rw [e] at hh
      cases hh with
      | yes v d _ h1 h2 h3 => rw [h1] at h; exact h v w _ (I.tok _) h2 h3
theorem dI_get1 {Q : Value → Shared → Prop} (hu : A.units + 1 < cLine) (I : Inv X pins σ H s) (das : DAs X G H s a ds y k) (ry : RelV y u)
    (h : ∀ v w' s', Inv X pins σ H s' → Rp X.K (gm X) G v ((dval ds k).getD .none) → RelV v w' → Q w' s') :
    wpAny (model X.prog X.w) A (call (.builtin "dict.get") [.ref a, u]) Q E s := by
  cases das with
  | K kvs vs q hk hy z hm kv dd r =>
    subst hk hy
    have hh := hasK (q := q) kv r
    refine call_meetsIn PySem.F.slot_dict_get dd.typeIs PySem.F.entry_dict_get (PySem.F.args_dict_get_2 _ _) (meets_dict_get (mixKind X.prog X.w) a (kV_is ry) hm) ⟨_, dd.mapOf, ?_⟩
    cases e : valueAt vs q with
    | none =>
      rw [e] at hh
      cases hh with
      | no h2 => rw [h2] at h; exact h .non .none _ (I.tok _) .non rfl
    | some w =>
      rw [e] at hh
      cases hh with
      | yes v d _ h1 h2 h3 => rw [h1] at h; exact h v w _ (I.tok _) h2 h3
  | T xs ys q b hk hy hb z hm kv dd rk r =>
    subst hk hy
    cases (show u = Value.ref b from ry)
    have hh := hasT (q := q) kv r
    refine call_meetsIn PySem.F.slot_dict_get dd.typeIs PySem.F.entry_dict_get (PySem.F.args_dict_get_2 _ _) (meetsH_dict_get (tupleKind (mixKind X.prog X.w)) a b hm) ⟨tupleKind_room_in1 hu, q, ys, hb, dd, ?_⟩
    cases e : (atKey ys q).map (·.2) with
    | none =>
      rw [e] at hh
      cases hh with
      | no h2 => rw [h2] at h; exact h .non .none _ (I.tok _) .non rfl
    | some w =>
      rw [e] at hh
      cases hh with
      | yes v d _ h1 h2 h3 => rw [h1] at h; exact h v w _ (I.tok _) h2 h3
/-- d[k] = v -/
theorem dI_put {Q : Unit → Shared → Prop} {v : V} {d : D} {r : Value} (hu : A.units + 1 < cLine) (I : Inv X pins σ H s) (das : DAs X G H s a ds y k) (mu : Mut (H a)) (ry : RelV y u) (hy : Rp X.K (gm X) G y k) (rv : RelV v r) (hv : Rp X.K (gm X) G v d) (hl : ds.length < sizeLine)
    (h : ∀ o' s', DictAtG X G (upd H a o') a (dput ds k d) → Inv X pins σ (upd H a o') s' → Q () s') : wpAny (model X.prog X.w) A (PySem.setItem (.ref a) u r) Q E s := by
  cases das with
  | K kvs vs q hk hy2 z hm kv dd rr =>
    subst hk hy2
    have lk : kvs.length = ds.length := by have := rr.length; rwa [List.length_map] at this
    have hz : vs.length ≤ sizeLine := by rw [← kv.length]; exact z
    have hl2 : (putK kvs q v).length ≤ sizeLine := by have := length_putK kvs q v; omega
    refine wpAny_setItem_pairs (hsz := hz) (kV_is ry) dd fun h' dd' hs => ?_
    obtain ⟨o, es, ep, h1, h2, h3, h4, h5, h6⟩ := dd'
    refine h (DKo (gm X) a o (putK kvs q v)) _ (.inl ⟨o, _, upd_same, RpP.put eqv_kD hv rr⟩) (I.write (x := a) (e := a) mu (.inl rfl) (fun b q hb z => (hs.2 b hb).trans z) ⟨o, h1⟩ ⟨⟨h1, hl2, hm, h2, es, ep, _, h3, kv.put q rv, h4, h5, h6⟩, ⟨o, h1⟩, fun x1 x2 q1 q2 => ⟨q2 _ q1.1, q1.2⟩⟩)
  | T xs ys q b hk hy2 hb z hm kv dd rk rr =>
    subst hk hy2
    cases (show u = Value.ref b from ry)
    have lk : xs.length = ds.length := by have := rr.length; rwa [List.length_map] at this
    have hz : ys.length ≤ sizeLine := by rw [← Paired.length kv]; exact z
    have hl2 : (putT xs q b v).length ≤ sizeLine := by have := putT_len xs q b v; omega
    refine wpAny_setItem_heap (hsz := hz) (tupleKind_room_in1 hu) hb dd fun h' dd' hs => ?_
    obtain ⟨o, es, ep, h1, h2, h3, h4, _, h6⟩ := dd'
    refine h (DTo (gm X) a o (putT xs q b v)) _ (.inr ⟨o, _, upd_same, putT_keys rk hy, ?_⟩) (I.write (x := a) (e := a) mu (.inl rfl) (fun b q hb z => (hs.2 b hb).trans z) ⟨o, h1⟩ ⟨⟨h1, hl2, hm, h2, es, ep, _, h3, PT.put kv q rv, h4, h6⟩, ⟨o, h1⟩, fun x1 x2 q1 q2 => ⟨q2 _ q1.1, q1.2⟩⟩)
    rw [RpP.plain, plain_put]
    exact RpP.put (f := fun q : List Key => PyData.tuple (q.map kD)) eqv_kT hv (RpP.plain.mp rr)
end
end Iv
set_option maxRecDepth 100000
set_option maxHeartbeats 4000000
/-! Iv2h: dicts with tuples as keys compared. -/
namespace Iv
open PySem PySem.Spec PyProof.Rows L2
section
variable {prog : Program} {w : World} {K : Type} [DecidableEq K] {knd : HeapKind prog w K} {A : Around} {E : Value → Shared → Prop} {s : Shared}
inductive HHits (A : Around) (s : Shared) (xb : List (K × Addr × Value)) : List (K × Addr × Value) → Bool → Prop
  | nil : HHits A s xb [] true
  | miss {k : K} {a : Addr} {v : Value} {r : List (K × Addr × Value)} : atKey xb k = none → HHits A s xb ((k, a, v) :: r) false
  | hit {k : K} {a : Addr} {v : Value} {p : Addr × Value} {r : List (K × Addr × Value)} {e b : Bool} : atKey xb k = some p → SeqAt.EqAt A s v p.2 e → HHits A s xb r b → HHits A s xb ((k, a, v) :: r) (e && b)
theorem HHits.inv {xb : List (K × Addr × Value)} {k : K} {a : Addr} {v : Value} {r : List (K × Addr × Value)} {b : Bool} (h : HHits A s xb ((k, a, v) :: r) b) :
    (atKey xb k = none ∧ b = false) ∨ ∃ p e b', atKey xb k = some p ∧ SeqAt.EqAt A s v p.2 e ∧ HHits A s xb r b' ∧ b = (e && b') := by
  cases h with
  | miss hn => exact .inl ⟨hn, rfl⟩
  | hit hy he hr => exact .inr ⟨_, _, _, hy, he, hr, rfl⟩
theorem atKey_cons {x : K × Addr × Value} {r : List (K × Addr × Value)} {k : K} : atKey (x :: r) k = if x.1 = k then some x.2 else atKey r k := by
  unfold atKey
  rw [List.find?_cons]
  by_cases h : x.1 = k
  · rw [decide_eq_true h, if_pos h]; rfl
  · rw [decide_eq_false h, if_neg h]
theorem atKey_at {k : K} {p : Addr × Value} : ∀ {xs : List (K × Addr × Value)} {j : Nat}, (xs.map (·.1)).Nodup → xs[j]? = some (k, p) → atKey xs k = some p
  | [], _, _, h => by simp at h
  | x :: r, 0, _, h => by
    simp at h
    subst h
    rw [atKey_cons, if_pos rfl]
  | x :: r, j + 1, nd, h => by
    rw [List.map_cons] at nd
    obtain ⟨n1, n2⟩ := List.nodup_cons.mp nd
    have h : r[j]? = some (k, p) := by simpa using h
    rw [atKey_cons, if_neg, atKey_at n2 h]
    intro e
    exact n1 (e ▸ List.mem_map.mpr ⟨(k, p), List.mem_of_getElem? h, rfl⟩)
theorem atKey_none {k : K} : ∀ {xs : List (K × Addr × Value)}, (∀ (j : Nat) (p : Addr × Value), xs[j]? ≠ some (k, p)) → atKey xs k = none
  | [], _ => rfl
  | x :: r, h => by
    rw [atKey_cons, if_neg, atKey_none fun j p => by simpa using h (j + 1) p]
    intro e
    exact h 0 x.2 (by simp [← e])
theorem keqH_samePairs {nm : String} {a b : Addr} {xa xb : List (K × Addr × Value)} {r : Bool} {Q : Bool → Shared → Prop} (hu : knd.room A) (ha : (a == sysModules) = false) (hb : (b == sysModules) = false)
    (da : s.heap.DictOfH knd a xa) (db : s.heap.DictOfH knd b xb) (hits : xa.length = xb.length → HHits A s xb xa r) (h : Q (xa.length == xb.length && r) s) :
    wpAny (model prog w) A (Builtin.Dict.samePairs nm a b) Q E s := by
  obtain ⟨oa, es, ep, hoa, _, hda, hea, hia, hna⟩ := da
  obtain ⟨ob, es', ep', hob, _, hdb, heb, hib, hnb⟩ := db
  have hla : xa.length = es.size := (size_of_entries hea).symm
  have hlb : xb.length = es'.size := (size_of_entries heb).symm
  rw [hla, hlb] at h
  unfold Builtin.Dict.samePairs Builtin.Dict.showsAll
  rw [if_neg (show ¬ (a == sysModules) = true by rw [ha]; exact Bool.false_ne_true), if_neg (show ¬ (b == sysModules) = true by rw [hb]; exact Bool.false_ne_true)]
  refine wpAny_bind (wpAny_pure (wpAny_bind (wpAny_pure ?_)))
  refine wpAny_bind (wpAny_dictEntries hoa hda ?_)
  dsimp only
  refine wpAny_bind (wpAny_dictEntries hob hdb ?_)
  by_cases hsz : es.size = es'.size
  case neg =>
    rw [if_pos (by simpa using hsz)]
    have hbf : (es.size == es'.size) = false := by simpa using hsz
    rw [hbf, Bool.false_and] at h
    exact wpAny_bind (wpAny_rule (wpAny_pure h))
  case pos =>
    have h' : Q r s := by simpa [hsz] using h
    have hits' := hits (by rw [hla, hlb]; exact hsz)
    rw [if_neg (by rw [hsz]; simp)]
    refine wpAny_bind (wpAny_dictEpoch hoa hda ?_)
    refine wpAny_bind ?_
    rw [Std.Legacy.Range.forIn_eq_forIn_range']
    simp only [Std.Legacy.Range.size, Nat.sub_zero, Nat.add_sub_cancel, Nat.div_one]
    refine wpAny_forIn_list _
      (fun rest q s' => s' = s ∧ q = (none, ()) ∧ ∃ i, rest = List.range' i (es.size - i) ∧ i ≤ es.size ∧ HHits A s xb (xa.drop i) r)
      _ ?_ ?_ _ _ ⟨rfl, rfl, 0, by simp, Nat.zero_le _, hits'⟩
    · rintro x rest q s' ⟨rfl, rfl, i, hr, hi, hpre⟩
      have hlt : i < es.size := by
        rcases Nat.lt_or_ge i es.size with h | h
        · exact h
        · rw [Nat.sub_eq_zero_of_le h] at hr; simp at hr
      obtain ⟨rfl, hrest⟩ : x = i ∧ rest = List.range' (i + 1) (es.size - (i + 1)) := by
        have e : es.size - i = (es.size - (i + 1)) + 1 := by omega
        rw [e, List.range'_succ] at hr
        injection hr with h1 h2
        exact ⟨h1, h2⟩
      refine wpAny_bind (wpAny_dictEntries hoa hda ?_)
      rw [Array.getElem?_eq_getElem hlt]
      have hlt' : x < xa.length := by rw [hla]; exact hlt
      obtain ⟨k, ad, v, hkv⟩ : ∃ k ad v, xa[x] = (k, ad, v) := ⟨_, _, _, rfl⟩
      have hdrop : xa.drop x = (k, ad, v) :: xa.drop (x + 1) := by rw [← hkv]; exact List.drop_eq_getElem_cons hlt'
      have hen : es[x] = entryOfKey knd (k, ad, v) := by
        have := entry_at hea x
        rw [Array.getElem?_eq_getElem hlt, List.getElem?_eq_getElem hlt', hkv] at this
        exact Option.some.inj this
      rw [hdrop] at hpre
      have hkey : knd.is s'.heap k ad := by
        have := hia xa[x] (List.getElem_mem hlt')
        rw [hkv] at this
        exact this
      show wpAny _ _ (holding [es[x].key, es[x].val] _ >>= _) _ _ _
      rw [hen]
      refine wpAny_bind (wpAny_holding (wpAny_bind (wpAny_dictFind_heap hu hkey hob hdb heb hib hnb (fun hno => ?_) fun j p hj => ?_)))
      · have hn : atKey xb k = none := atKey_none hno
        rcases hpre.inv with ⟨_, er⟩ | ⟨y, _, _, hy, _⟩
        · rw [er] at h'
          refine wpAny_pure ?_
          show wpAny _ _ (if (!false) = true then _ else _) _ _ _
          rw [if_pos (by decide)]
          exact wpAny_pure (wpAny_pure h')
        · rw [hn] at hy; exact nomatch hy
      · have hv' : atKey xb k = some p := atKey_at hnb hj
        have hjlt : j < es'.size := by rw [← hlb]; exact (List.getElem?_eq_some_iff.mp hj).1
        have hej : es'[j] = entryOfKey knd (k, p) := by
          have := entry_at heb j
          rw [Array.getElem?_eq_getElem hjlt, hj] at this
          exact Option.some.inj this
        refine wpAny_bind (wpAny_dictEntries hob hdb ?_)
        rw [Array.getElem?_eq_getElem hjlt]
        rcases hpre.inv with ⟨hn, _⟩ | ⟨y, e, b', hy, he, hrr, er⟩
        · rw [hv'] at hn; exact nomatch hn
        · have ey : p = y := Option.some.inj (hv'.symm.trans hy)
          subst ey
          have he2 : SeqAt.EqAt A s' v es'[j].val e := by rw [hej]; exact he
          refine wpAny_holding (he2 prog w _ _ ?_)
          cases e with
          | false =>
            rw [er, Bool.false_and] at h'
            show wpAny _ _ (if (!false) = true then _ else _) _ _ _
            rw [if_pos (by decide)]
            exact wpAny_pure (wpAny_pure h')
          | true =>
            rw [Bool.true_and] at er
            rw [← er] at hrr
            show wpAny _ _ (if (!true) = true then _ else _) _ _ _
            rw [if_neg (by decide)]
            refine wpAny_bind (wpAny_dictEpoch hoa hda ?_)
            rw [if_neg (by simp)]
            exact wpAny_pure ⟨rfl, rfl, x + 1, hrest, hlt, hrr⟩
    · rintro q s' ⟨rfl, rfl, i, hr, hi, hpre⟩
      have hin : i = es.size := by
        rcases Nat.lt_or_ge i es.size with h | h
        · have e : es.size - i = (es.size - (i + 1)) + 1 := by omega
          rw [e, List.range'_succ] at hr; exact nomatch hr
        · exact Nat.le_antisymm hi h
      refine wpAny_pure ?_
      rw [hin, ← hla, List.drop_length] at hpre
      cases hpre
      exact h'
theorem dictOfH_typeIs {a : Addr} {xs : List (K × Addr × Value)} (h : s.heap.DictOfH knd a xs) : s.TypeIs (.ref a) "dict" := let ⟨o, _, _, ho, hx, _⟩ := h; ⟨o, ho, hx.1⟩
theorem keqH_eq {a b : Addr} {xa xb : List (K × Addr × Value)} {r : Bool} {Q : Value → Shared → Prop} (hr : knd.room A.in1) (ha : (a == sysModules) = false) (hb : (b == sysModules) = false)
    (da : s.heap.DictOfH knd a xa) (db : s.heap.DictOfH knd b xb) (hu : A.units < cLine) (hits : xa.length = xb.length → HHits A.in1 s xb xa r) (h : Q (.bool (xa.length == xb.length && r)) s) :
    wpAny (model prog w) A (compareOp .Eq (.ref a) (.ref b)) Q E s := by
  refine wpAny_richCompare_same_room (op := .Eq) (dictOfH_typeIs da) (dictOfH_typeIs db) PySem.F.slot_dict_eq (wpAny_call_entry PySem.F.slot_dict_eq (dictOfH_typeIs da) PySem.F.entry_dict_eq ?_ (PySem.F.args_dict_eq_2 _ _)) hu
  show wpAny _ _ (Builtin.Dict.dictSlotArgs "__eq__" ⟨[.ref a, .ref b], []⟩ >>= _) _ _ s
  refine wpAny_bind ?_
  unfold Builtin.Dict.dictSlotArgs
  refine wpAny_bind (wpAny_notOrdered_dict (dictOfH_typeIs da) ?_)
  show wpAny _ _ (pure (Value.ref a, Value.ref b)) _ _ s
  refine wpAny_pure ?_
  refine wpAny_bind (wpAny_isInstance (T := "dict") (dictOfH_typeIs db) PySem.F.sub_dict_dict ?_)
  simp only [Bool.not_true, Bool.false_eq_true, if_false]
  refine wpAny_bind (wpAny_pure (wpAny_bind (wpAny_pure ?_)))
  refine wpAny_bind (keqH_samePairs hr ha hb da db hits ?_)
  refine wpAny_pure ⟨_, rfl, ?_, ?_⟩
  · exact fun x => nomatch x
  · simpa using h
end
section
variable {X : Cx} {pins : List (Addr × Obj)} {σ : St} {H G : Hp} {s : Shared}
theorem asT {a : Addr} {ds : List (D × D)} (I : Inv X pins σ H s) (ex : Ex G H) (h : DictAtG X G H a ds) (hk : (ds.all fun p => key1 p.1) = true) : ∃ (xs : List (List Key × Addr × V)) (ys : List (List Key × Addr × Value)), (a == sysModules) = false ∧ PT xs ys ∧ s.heap.DictOfH (tupleKind (mixKind X.prog X.w)) a ys ∧
    RpP X.K (gm X) G (xs.map fun p => (.tuple (p.1.map kD), p.2.2)) ds := by
  rcases h with ⟨o, kvs, ha, r⟩ | ⟨o, xs, ha, rk, r⟩
  · obtain ⟨z, hm, vs, kv, dd⟩ := dkI I ha
    have e : kvs = [] := by
      cases kvs with
      | nil => rfl
      | cons p t =>
        rw [all_key (p := key1) (g := fun p : Key × V => kD p.1) (c := fun p => p.2) r, List.all_cons, key1_kD] at hk
        cases hk
    subst e
    cases kv
    cases r
    exact ⟨[], [], hm, .nil, empties dd, .nil⟩
  · obtain ⟨z, hm, ys, kv, dd⟩ := dtI I ha ex rk
    exact ⟨xs, ys, hm, kv, dd, r⟩
theorem hits_of (I : Inv X pins σ H s) (ex : Ex G H) (hu : X.A.units + 65 < cLine) {xb : List (List Key × Addr × V)} {yb : List (List Key × Addr × Value)} {db : List (D × D)} (kb : PT xb yb) (rb : RpP X.K (gm X) G (xb.map fun p => (.tuple (p.1.map kD), p.2.2)) db) (sb : ∀ p ∈ db, SeqAt.shaped p.2 = true) :
    ∀ {xa : List (List Key × Addr × V)} {ya : List (List Key × Addr × Value)} {da : List (D × D)}, PT xa ya → RpP X.K (gm X) G (xa.map fun p => (.tuple (p.1.map kD), p.2.2)) da → (∀ p ∈ da, SeqAt.shaped p.2 = true) → HHits X.A.in1 s yb ya (da.all (eqAtD db))
  | [], _, _, .nil, r, _ => by cases r; exact .nil
  | x :: xa, y :: ya, _, .cons h t, r, sa => by
    rw [List.map_cons] at r
    cases r with
    | @cons _ _ _ d ds hv r =>
      obtain ⟨h1, h2, h3⟩ := h
      have ih := hits_of I ex hu kb rb sb t r fun p hp => sa p (List.mem_cons_of_mem _ hp)
      have hh := hasT (q := x.1) kb rb
      obtain ⟨yk, ya1, yv⟩ := y
      have h1 : x.1 = yk := h1
      subst h1
      rw [List.all_cons]
      generalize e : (atKey yb x.1).map (·.2) = o at hh
      cases hh with
      | no hn =>
        have e2 : atKey yb x.1 = none := by
          cases q : atKey yb x.1 with
          | none => rfl
          | some z => rw [q] at e; cases e
        have e3 : eqAtD db (.tuple (x.1.map kD), d) = false := by unfold eqAtD; rw [hn]
        rw [e3, Bool.false_and]
        exact .miss e2
      | yes v d2 r2 hd hr hrel =>
        obtain ⟨p, hp, hp2⟩ := Option.map_eq_some_iff.mp e
        have e3 : eqAtD db (.tuple (x.1.map kD), d) = PyData.eqv d d2 := by unfold eqAtD; rw [hd]
        rw [e3]
        have s1 : SeqAt.shaped d = true := sa (.tuple (x.1.map kD), d) List.mem_cons_self
        have s2 : SeqAt.shaped d2 = true := by
          unfold dval at hd
          obtain ⟨q, hq, hq2⟩ := Option.map_eq_some_iff.mp hd
          rw [← hq2]
          exact sb q (List.mem_of_find?_eq_some hq)
        obtain ⟨as, ra⟩ := Dp.reads I d x.2.2 yv ((hv.ex ex).shaped s1) h3
        obtain ⟨bs, rb2⟩ := Dp.reads I d2 v r2 ((hr.ex ex).shaped s2) hrel
        refine .hit hp ?_ ih
        rw [hp2]
        exact PySem.W.keq_at (A := X.A) ra rb2 s1 s2 (by show X.A.units + 1 + 64 < cLine; omega)
theorem dI_eq {E : Value → Shared → Prop} {a b : Addr} {da db : List (D × D)} {Q : Value → Shared → Prop} (hu : X.A.units + 65 < cLine) (I : Inv X pins σ H s) (ex : Ex G H) (ha : DictAtG X G H a da) (hb : DictAtG X G H b db) (oa : okDict da = true) (ob : okDict db = true) (h : Q (.bool (eqDict da db)) s) :
    wpAny (model X.prog X.w) X.A (compareOp .Eq (.ref a) (.ref b)) Q E s := by
  have k : ∀ {ds : List (D × D)}, okDict ds = true → (ds.all fun p => key1 p.1) = true ∧ ∀ p ∈ ds, SeqAt.shaped p.2 = true := fun {ds} h => by
    unfold okDict at h
    rw [List.all_eq_true] at h
    refine ⟨List.all_eq_true.mpr fun p hp => ?_, fun p hp => ?_⟩
    · have := h p hp
      rw [Bool.and_eq_true] at this
      exact this.1
    · have := h p hp
      rw [Bool.and_eq_true] at this
      exact this.2
  obtain ⟨xa, ya, ma, pa, dda, ra⟩ := asT I ex ha (k oa).1
  obtain ⟨xb, yb, mb, pb, ddb, rb⟩ := asT I ex hb (k ob).1
  have la : ya.length = da.length := by rw [← Paired.length pa]; have := ra.length; rwa [List.length_map] at this
  have lb : yb.length = db.length := by rw [← Paired.length pb]; have := rb.length; rwa [List.length_map] at this
  refine keqH_eq (knd := tupleKind (mixKind X.prog X.w)) (by show X.A.units + 1 < cLine; omega) ma mb dda ddb (by omega) (fun _ => hits_of I ex hu pb rb (k ob).2 pa ra (k oa).2) ?_
  rw [la, lb]
  exact h
end
end Iv
set_option maxRecDepth 100000
set_option maxHeartbeats 4000000
/-! Iv3: comparisons, truth, and | or | not, names, constants, displays, subscripts, slices. -/
namespace Iv
open PySem PySem.Spec PyProof.Rows L2
section
variable {X : Cx} {W : Wish} {M A M1 A1 : Set} {σ : St} {H H1 : Hp} {cx : Ctx} {ρ : Env}

/-! ### comparisons -/
def SoB (X : Cx) (f : Value → Value → Sem Value) (x y : V) (H : Hp) (b : Bool) : Prop := ∀ Q : VK, Q (.bl b) H → SO X f x y H Q
theorem op_inTt (hu : X.A.units + 65 < cLine) {x y : V} {d : D} {ds : List D} (hx : Dp X.K H x d) (hy : Dp X.K H y (.tuple ds)) (sd : SeqAt.shaped d = true) (se : SeqAt.shaped (.tuple ds) = true) : SoB X (compareOp .In) x y H (ds.any fun z => PyData.eqv z d) := by
  intro Q q pins s σ v u I rx ry
  obtain ⟨as, r1⟩ := Dp.reads I d x v hx rx
  obtain ⟨bs, r2⟩ := Dp.reads I (.tuple ds) y u hy ry
  exact SeqAt.in_tuple_reads r2 r1 (SeqAt.canLay_of_shaped se) (SeqAt.canLay_of_shaped sd) (room_in_shaped sd hu) ⟨.bl _, H, I, rfl, q⟩
theorem op_notInTt (hu : X.A.units + 65 < cLine) {x y : V} {d : D} {ds : List D} (hx : Dp X.K H x d) (hy : Dp X.K H y (.tuple ds)) (sd : SeqAt.shaped d = true) (se : SeqAt.shaped (.tuple ds) = true) : SoB X (compareOp .NotIn) x y H (!ds.any fun z => PyData.eqv z d) := by
  intro Q q pins s σ v u I rx ry
  obtain ⟨as, r1⟩ := Dp.reads I d x v hx rx
  obtain ⟨bs, r2⟩ := Dp.reads I (.tuple ds) y u hy ry
  exact SeqAt.notIn_tuple_reads r2 r1 (SeqAt.canLay_of_shaped se) (SeqAt.canLay_of_shaped sd) (room_in_shaped sd hu) ⟨.bl _, H, I, rfl, q⟩
theorem RdOk.isN {K : PySem.W.Frag} {mg : MG} {v : V} {d : D} (h : RdOk K mg M H v d) : decide (v = .non) = isNoneD d := by
  rcases h with h | ⟨p, rfl, h⟩
  · cases h <;> rfl
  · cases d with
    | none => exact h.elim
    | list _ => rfl
    | dict _ => rfl
    | bool _ => exact h.elim
    | int _ => exact h.elim
    | str _ => exact h.elim
    | tuple _ => exact h.elim
theorem keyOk_dkeys {ds : List (D × D)} {k : D} (h : keyOk ds k = true) : dkeys ds = true := by
  unfold keyOk at h
  unfold dkeys
  rw [Bool.or_eq_true, Bool.and_eq_true, Bool.and_eq_true] at h
  rw [Bool.or_eq_true]
  exact h.imp (·.2) (·.2)
theorem okDict_dkeys {ds : List (D × D)} (h : okDict ds = true) : dkeys ds = true := by
  unfold okDict at h
  unfold dkeys
  rw [List.all_eq_true] at h
  rw [Bool.or_eq_true]
  refine .inr (List.all_eq_true.mpr fun p hp => ?_)
  have := h p hp
  rw [Bool.and_eq_true] at this
  exact this.1
theorem RdOk.dct {v : V} {ds : List (D × D)} (h : RdOk X.K (gm X) M H v (.dict ds)) (hk : dkeys ds = true) : ∃ p, v = .ref p ∧ DictAtG X (hid M H) H p ds := by
  rcases h with h | ⟨p, rfl, h⟩
  · generalize hd : PyData.dict ds = d at h
    cases h with
    | dK h r => cases hd; exact ⟨_, rfl, .inl ⟨_, _, hid_le _ _ h, r⟩⟩
    | dT h q r => cases hd; exact ⟨_, rfl, .inr ⟨_, _, hid_le _ _ h, q, r⟩⟩
    | fn _ => cases hd; cases hk
    | scr _ => cases hd; cases hk
    | non => cases hd
    | bl _ => cases hd
    | int _ => cases hd
    | str _ => cases hd
    | lst _ _ => cases hd
    | tup _ _ _ => cases hd
  · exact ⟨p, rfl, h⟩
theorem dictTy {pins : List (Addr × Obj)} {s : Shared} {G : Hp} {p : Addr} {ds : List (D × D)} (I : Inv X pins σ H s) (h : DictAtG X G H p ds) : s.TypeIs (.ref p) "dict" ∧ ∃ ob, s.heap.get? p = some ob ∧ ob.dict = none := by
  rcases h with ⟨o, kvs, ha, _⟩ | ⟨o, xs, ha, _⟩
  · obtain ⟨⟨h1, _, _, h4, _⟩, _⟩ := (show ObjOk X.prog X.w H s.heap p (DKo (gm X) p o kvs) from I.hok p _ ha)
    exact ⟨⟨o, h1, h4.1⟩, o, h1, h4.2.1⟩
  · obtain ⟨⟨h1, _, _, h4, _⟩, _⟩ := (show ObjOk X.prog X.w H s.heap p (DTo (gm X) p o xs) from I.hok p _ ha)
    exact ⟨⟨o, h1, h4.1⟩, o, h1, h4.2.1⟩
theorem RdOk.key {v : V} {k : D} {ds : List (D × D)} (h : RdOk X.K (gm X) M H v k) (hk : keyOk ds k = true) : Rp X.K (gm X) (hid M H) v k := by
  rcases h with h | ⟨p, rfl, h⟩
  · exact h
  · cases k with
    | none => exact h.elim
    | list _ => cases hk
    | dict _ => cases hk
    | bool _ => exact h.elim
    | int _ => exact h.elim
    | str _ => exact h.elim
    | tuple _ => exact h.elim
theorem units1 (hu : X.A.units + 65 < cLine) : X.A.units + 1 < cLine := by omega
theorem op_inD2 (hu : X.A.units + 65 < cLine) {x y : V} {k : D} {ds : List (D × D)} (hx : RdOk X.K (gm X) M H x k) (hy : RdOk X.K (gm X) M H y (.dict ds)) (hk : keyOk ds k = true) : SoB X (compareOp .In) x y H (dval ds k).isSome := by
  intro Q q pins s σ v u I rx ry
  obtain ⟨p, rfl, h⟩ := hy.dct (keyOk_dkeys hk)
  cases (show u = Value.ref p from ry)
  exact dI_in (units1 hu) I (dAs I hid_le h (hx.key hk) hk) rx fun s' I' => ⟨.bl _, H, I', rfl, q⟩
theorem op_notInD2 (hu : X.A.units + 65 < cLine) {x y : V} {k : D} {ds : List (D × D)} (hx : RdOk X.K (gm X) M H x k) (hy : RdOk X.K (gm X) M H y (.dict ds)) (hk : keyOk ds k = true) : SoB X (compareOp .NotIn) x y H (!(dval ds k).isSome) := by
  intro Q q pins s σ v u I rx ry
  obtain ⟨p, rfl, h⟩ := hy.dct (keyOk_dkeys hk)
  cases (show u = Value.ref p from ry)
  exact dI_notIn (units1 hu) I (dAs I hid_le h (hx.key hk) hk) rx fun s' I' => ⟨.bl _, H, I', rfl, q⟩
theorem cmpop_ok (hu : X.A.units + 65 < cLine) {o : CmpOp} {a b : D} {z : Bool} {x y : V} (e : cmpop o a b = some z) (hx : RdOk X.K (gm X) M H x a) (hy : RdOk X.K (gm X) M H y b) : SoB X (compareOp o) x y H z := by
  intro Q q
  unfold cmpop at e
  split at e
  · split at e <;> cases e
    rename_i hz
    intro pins s σ v u I rx ry
    obtain ⟨p, rfl, h1⟩ := hx.dct (okDict_dkeys hz.1)
    obtain ⟨q', rfl, h2⟩ := hy.dct (okDict_dkeys hz.2)
    cases (show v = Value.ref p from rx)
    cases (show u = Value.ref q' from ry)
    exact dI_eq hu I hid_le h1 h2 hz.1 hz.2 ⟨.bl _, H, I, rfl, q⟩
  · split at e <;> cases e
    rename_i hz
    exact so_of (op_eqD (Nat.lt_of_succ_lt hu)) ⟨a, b, hx.rp.shaped hz.1, hy.rp.shaped hz.2, hz.1, hz.2, q⟩
  · split at e <;> cases e
    rename_i hz
    exact so_of (op_neD (Nat.lt_of_succ_lt hu)) ⟨a, b, hx.rp.shaped hz.1, hy.rp.shaped hz.2, hz.1, hz.2, q⟩
  · cases e
    rw [hx.int, hy.int]
    exact so_of op_lt ⟨_, _, rfl, rfl, q⟩
  · cases e
    rw [hx.int, hy.int]
    exact so_of op_le ⟨_, _, rfl, rfl, q⟩
  · cases e
    rw [hx.int, hy.int]
    exact so_of op_gt ⟨_, _, rfl, rfl, q⟩
  · cases e
    rw [hx.int, hy.int]
    exact so_of op_ge ⟨_, _, rfl, rfl, q⟩
  · cases e
    rw [hx.str, hy.str]
    exact so_of op_lt_str ⟨_, _, rfl, rfl, q⟩
  · split at e <;> cases e
    rename_i hz
    exact so_of (op_inD hu) ⟨_, _, hx.rp.shaped hz.1, hy.rp.shaped hz.2, hz.1, hz.2, q⟩
  · split at e <;> cases e
    rename_i hz
    exact so_of (op_notInD hu) ⟨_, _, hx.rp.shaped hz.1, hy.rp.shaped hz.2, hz.1, hz.2, q⟩
  · split at e <;> cases e
    rename_i hz
    exact op_inTt hu (hx.rp.shaped hz.1) (hy.rp.shaped hz.2) hz.1 hz.2 Q q
  · split at e <;> cases e
    rename_i hz
    exact op_notInTt hu (hx.rp.shaped hz.1) (hy.rp.shaped hz.2) hz.1 hz.2 Q q
  · split at e <;> cases e
    rename_i hz
    exact op_inD2 hu hx hy hz Q q
  · split at e <;> cases e
    rename_i hz
    exact op_notInD2 hu hx hy hz Q q
  · cases e
    rw [hy.non]
    refine so_of op_isN ⟨rfl, ?_⟩
    rw [hx.isN]
    exact q
  · cases e
    rw [hy.non]
    refine so_of op_notN ⟨rfl, ?_⟩
    rw [hx.isN]
    exact q
  · cases e
    rw [hx.bl, hy.bl]
    refine so_of op_isBl ⟨_, _, rfl, rfl, ?_⟩
    rw [← Bool.beq_eq_decide_eq]
    exact q
  · cases e
theorem cmp_core (hu : X.A.units + 65 < cLine) {a b : Expr} {ca cb : C} {o : CmpOp} (ha : SndE cx X W a ca) (hb : SndE cx X W b cb) {Q : VK} (rel : Rel X.K (gm X) M A ρ σ H) (acc : AccE X W M A σ H (ev cx (.cmp o ca cb) ρ) Q) :
    tOp (SO X (compareOp o)) (SE X a) (SE X b) σ H Q := by
  refine ha.bind rel acc fun x ρ1 v H1 M1 A1 s1 r1 h1 acc1 => hb.bind r1 acc1 fun y ρ2 u H2 M2 A2 s2 r2 h2 acc2 => ?_
  obtain ⟨dx, ex, acc2⟩ := acc2.of
  obtain ⟨dy, ey, acc2⟩ := acc2.of
  obtain ⟨z, ez, acc2⟩ := acc2.of
  exact cmpop_ok hu ez (read_ok r2 (h1.step s2 r1.am) ex) (read_ok r2 h2 ey) Q (acc2.d r2 (.bl z))
theorem snd_cmp (hu : X.A.units + 65 < cLine) {a b : Expr} {ca cb : C} {o : CmpOp} {pos : Pos} (hm : behindInMarks o b = false) (ha : SndE cx X W a ca) (hb : SndE cx X W b cb) : SndE cx X W (.Compare a [o] [b] pos) (.cmp o ca cb) :=
  fun ρ M A σ H Q rel acc => se_of (pe_cmpR opr_so pe_se pe_se hm) (cmp_core hu ha hb rel acc)

/-- code whose result is a truth value -/
def IsB (cx : Ctx) (c : C) : Prop := ∀ ρ r ρ', ev cx c ρ = .ok (r, ρ') → ∃ b, r = .d (.bool b)
theorem AccT.toE {c : C} (hb : IsB cx c) {Q : Bool → Hp → Prop} (acc : AccT X W M A σ H (ev cx (.tr c) ρ) Q) : AccE X W M A σ H (ev cx c ρ) (fun v H' => ∃ k, v = .bl k ∧ Q k H') := by
  have acc : AccT X W M A σ H ((ev cx c ρ).bd fun x ρ1 => got (read ρ1 x) fun d => got (truth d) fun b => .ok (.d (.bool b), ρ1)) Q := acc
  cases g : ev cx c ρ with
  | no =>
    rw [g] at acc
    exact acc
  | er x =>
    rw [g] at acc
    exact acc
  | ok p =>
    obtain ⟨r, ρ'⟩ := p
    rw [g] at acc
    obtain ⟨b, rfl⟩ := hb _ _ _ g
    intro v H1 M1 A1 s1 r1 h1
    cases (show Rp X.K (gm X) (hid M1 H1) v (.bool b) from h1)
    exact ⟨b, rfl, acc b H1 M1 A1 rfl s1 r1⟩
theorem R.bd_ok_iff {α β γ : Type} {r : R (α × β)} {k : α → β → R γ} {z : γ} (h : r.bd k = .ok z) : ∃ a b, r = .ok (a, b) ∧ k a b = .ok z := by
  cases r with
  | ok p => exact ⟨p.1, p.2, rfl, h⟩
  | er x => cases h
  | no => cases h
theorem got_ok_iff {α γ : Type} {o : Option α} {k : α → R γ} {z : γ} (h : got o k = .ok z) : ∃ a, o = some a ∧ k a = .ok z := by
  cases o with
  | none => cases h
  | some a => exact ⟨a, rfl, h⟩
theorem isB_cmp {o : CmpOp} {a b : C} : IsB cx (.cmp o a b) := by
  intro ρ r ρ' h
  obtain ⟨x, ρ1, h1, h⟩ := R.bd_ok_iff h
  obtain ⟨y, ρ2, h2, h⟩ := R.bd_ok_iff h
  obtain ⟨dx, e1, h⟩ := got_ok_iff h
  obtain ⟨dy, e2, h⟩ := got_ok_iff h
  obtain ⟨z, e3, h⟩ := got_ok_iff h
  cases h
  exact ⟨_, rfl⟩
theorem isB_ch {o o' : CmpOp} {a b c : C} : IsB cx (.ch o o' a b c) := by
  intro ρ r ρ' h
  obtain ⟨x, ρ1, h1, h⟩ := R.bd_ok_iff h
  obtain ⟨y, ρ2, h2, h⟩ := R.bd_ok_iff h
  obtain ⟨dx, e1, h⟩ := got_ok_iff h
  obtain ⟨dy, e2, h⟩ := got_ok_iff h
  obtain ⟨z, e3, h⟩ := got_ok_iff h
  cases z with
  | false =>
    cases h
    exact ⟨_, rfl⟩
  | true =>
    obtain ⟨y, ρ2, h2, h⟩ := R.bd_ok_iff h
    obtain ⟨dx, e1, h⟩ := got_ok_iff h
    obtain ⟨dy, e2, h⟩ := got_ok_iff h
    obtain ⟨z, e3, h⟩ := got_ok_iff h
    cases h
    exact ⟨_, rfl⟩
theorem sndT_cmp (hu : X.A.units + 65 < cLine) {a b : Expr} {ca cb : C} {o : CmpOp} {pos : Pos} (hm : behindInMarks o b = false) (ha : SndE cx X W a ca) (hb : SndE cx X W b cb) : SndT cx X W (.Compare a [o] [b] pos) (.tr (.cmp o ca cb)) :=
  fun ρ M A σ H Q rel acc => st_of (pt_cmpR opr_so pe_se pe_se hm) (cmp_core hu ha hb rel (acc.toE isB_cmp))
theorem ch_core (hu : X.A.units + 65 < cLine) {a b c : Expr} {ca cb cc : C} {o o' : CmpOp} (ha : SndE cx X W a ca) (hb : SndE cx X W b cb) (hc : SndE cx X W c cc) {Q : VK} (rel : Rel X.K (gm X) M A ρ σ H) (acc : AccE X W M A σ H (ev cx (.ch o o' ca cb cc) ρ) Q) :
    tChain (SO X (compareOp o)) (SO X (compareOp o')) (SE X a) (SE X b) (SE X c) σ H Q := by
  refine ha.bind rel acc fun x ρ1 v H1 M1 A1 s1 r1 h1 acc1 => hb.bind r1 acc1 fun y ρ2 u H2 M2 A2 s2 r2 h2 acc2 => ?_
  obtain ⟨dx, ex, acc2⟩ := acc2.of
  obtain ⟨dy, ey, acc2⟩ := acc2.of
  obtain ⟨z, ez, acc2⟩ := acc2.of
  refine cmpop_ok hu ez (read_ok r2 (h1.step s2 r1.am) ex) (read_ok r2 h2 ey) _ ⟨z, rfl, ?_⟩
  cases z with
  | false =>
    rw [if_neg Bool.false_ne_true]
    exact acc2.d r2 (.bl false)
  | true =>
    rw [if_pos rfl]
    refine hc.bind r2 acc2 fun t ρ3 w H3 M3 A3 s3 r3 h3 acc3 => ?_
    obtain ⟨dy', ey', acc3⟩ := acc3.of
    obtain ⟨dz, ez', acc3⟩ := acc3.of
    obtain ⟨z', ez2, acc3⟩ := acc3.of
    exact cmpop_ok hu ez2 (read_ok r3 (h2.step s3 r2.am) ey') (read_ok r3 h3 ez') _ (acc3.d r3 (.bl z'))
theorem snd_ch (hu : X.A.units + 65 < cLine) {a b c : Expr} {ca cb cc : C} {o o' : CmpOp} {pos : Pos} (hm : lastMarks [o, o'] [b, c] = false) (ha : SndE cx X W a ca) (hb : SndE cx X W b cb) (hc : SndE cx X W c cc) : SndE cx X W (.Compare a [o, o'] [b, c] pos) (.ch o o' ca cb cc) :=
  fun ρ M A σ H Q rel acc => se_of (pe_chain opr_so opr_so pe_se pe_se pe_se hm) (ch_core hu ha hb hc rel acc)
theorem sndT_ch (hu : X.A.units + 65 < cLine) {a b c : Expr} {ca cb cc : C} {o o' : CmpOp} {pos : Pos} (hm : lastMarks [o, o'] [b, c] = false) (ha : SndE cx X W a ca) (hb : SndE cx X W b cb) (hc : SndE cx X W c cc) : SndT cx X W (.Compare a [o, o'] [b, c] pos) (.tr (.ch o o' ca cb cc)) :=
  fun ρ M A σ H Q rel acc => st_of (pt_chain opr_so opr_so pe_se pe_se pe_se hm) (ch_core hu ha hb hc rel (acc.toE isB_ch))

/-! ### truth -/
theorem truth_ok {d : D} {k : Bool} {x : V} (e : truth d = some k) (h : RdOk X.K (gm X) M H x d) : TruV X.K x H k := by
  unfold truth at e
  split at e
  · cases e; rw [h.non]; rfl
  · cases e; rw [h.bl]; rfl
  · cases e; rw [h.int]; rfl
  · split at e <;> cases e
    rename_i s hz
    rw [h.str]
    refine ⟨bigL hz, ?_⟩
    show (s.length != 0) = ((s.length : Int) != 0)
    cases hl : s.length <;> rfl
  · cases e
    obtain ⟨p, xs, rfl, hp, h1⟩ := h.lst
    exact .inl ⟨xs, SqL.of hp, by cases h1 <;> rfl⟩
  · cases e
    obtain ⟨p, xs, o, rfl, hp, d1, h1⟩ := h.tup
    exact .inr (.inl ⟨xs, .inl (.inr ⟨_, hp⟩), by cases h1 <;> rfl⟩)
  · cases e
/-- the test of e is its value's truth -/
def PlainT (e : Expr) : Prop := ∀ env whole, isTrue e env whole = (do let v ← whole; standAt e.pos; holding [v] (truthy v))
theorem sndT_tr {e : Expr} {c : C} (hp : PlainT e) (h : SndE cx X W e c) : SndT cx X W e (.tr c) := by
  intro ρ M A σ H Q rel acc
  refine st_of (pt_truth pe_se (hp X.env)) (h.bindT rel acc fun x ρ1 v H1 M1 A1 s1 r1 h1 acc1 => ?_)
  obtain ⟨d, ed, acc1⟩ := acc1.of
  obtain ⟨k, ek, acc1⟩ := acc1.of
  exact ⟨k, truth_ok ek (read_ok r1 h1 ed), acc1 k H1 M1 A1 rfl .refl r1⟩
theorem sndT_not {e : Expr} {c : C} {pos : Pos} (h : SndT cx X W e c) : SndT cx X W (.UnaryOp .Not e pos) (.nott c) := by
  intro ρ M A σ H Q rel acc
  refine st_of (pt_not pt_st) (h.bindT rel acc fun b ρ1 H1 M1 A1 s1 r1 acc1 => ?_)
  obtain ⟨k, ek, acc1⟩ := acc1.of
  cases ek
  exact acc1 (!b) H1 M1 A1 rfl .refl r1
/-- tests in a row, as and | or take them -/
def SndW (cx : Ctx) (X : Cx) (W : Wish) (e : Expr) (c : C) : Prop := ∀ ρ M A σ H Q, Rel X.K (gm X) M A ρ σ H → AccT X W M A σ H (ev cx c ρ) Q →
  ∀ whole pins s, Inv X pins σ H s → wpAny (model X.prog X.w) X.A (isTrue e X.env whole) (TP X pins σ Q) X.xe s
def SW (X : Cx) (e : Expr) : TT := fun σ H Q => ∀ whole pins s, Inv X pins σ H s → wpAny (model X.prog X.w) X.A (isTrue e X.env whole) (TP X pins σ Q) X.xe s
theorem pw_sw {X : Cx} {e : Expr} : PW X e (SW X e) := ⟨fun whole pins s σ H Q I h => h whole pins s I⟩
theorem sndW_t {e : Expr} {c : C} (h : SndW cx X W e c) : SndT cx X W e c := fun ρ M A σ H Q rel acc pins s I => h ρ M A σ H Q rel acc _ pins s I
theorem sndW_and1 {e : Expr} {c : C} {pos : Pos} (h : SndT cx X W e c) : SndW cx X W (.BoolOp .And [e] pos) c := fun ρ M A σ H Q rel acc whole pins s I => (pw_and1 pt_st).run whole pins s σ H Q I (h ρ M A σ H Q rel acc)
theorem sndW_or1 {e : Expr} {c : C} {pos : Pos} (h : SndT cx X W e c) : SndW cx X W (.BoolOp .Or [e] pos) c := fun ρ M A σ H Q rel acc whole pins s I => (pw_or1 pt_st).run whole pins s σ H Q I (h ρ M A σ H Q rel acc)
theorem sndW_and {a b : Expr} {rest : List Expr} {ca cb : C} {pos : Pos} (ha : SndT cx X W a ca) (hb : SndW cx X W (.BoolOp .And (b :: rest) pos) cb) : SndW cx X W (.BoolOp .And (a :: b :: rest) pos) (.andt ca cb) := by
  intro ρ M A σ H Q rel acc whole pins s I
  refine (pw_and pt_st (pw_sw (e := .BoolOp .And (b :: rest) pos))).run whole pins s σ H Q I (ha.bindT rel acc fun k ρ1 H1 M1 A1 s1 r1 acc1 => ?_)
  obtain ⟨k', ek, acc1⟩ := acc1.of
  cases ek
  cases k with
  | true =>
    rw [if_pos rfl]
    exact fun whole pins s I => hb ρ1 M1 A1 σ H1 Q r1 acc1 whole pins s I
  | false =>
    rw [if_neg Bool.false_ne_true]
    exact acc1 false H1 M1 A1 rfl .refl r1
theorem sndW_or {a b : Expr} {rest : List Expr} {ca cb : C} {pos : Pos} (ha : SndT cx X W a ca) (hb : SndW cx X W (.BoolOp .Or (b :: rest) pos) cb) : SndW cx X W (.BoolOp .Or (a :: b :: rest) pos) (.ort ca cb) := by
  intro ρ M A σ H Q rel acc whole pins s I
  refine (pw_or pt_st (pw_sw (e := .BoolOp .Or (b :: rest) pos))).run whole pins s σ H Q I (ha.bindT rel acc fun k ρ1 H1 M1 A1 s1 r1 acc1 => ?_)
  obtain ⟨k', ek, acc1⟩ := acc1.of
  cases ek
  cases k with
  | false =>
    rw [if_neg Bool.false_ne_true]
    exact fun whole pins s I => hb ρ1 M1 A1 σ H1 Q r1 acc1 whole pins s I
  | true =>
    rw [if_pos rfl]
    exact acc1 true H1 M1 A1 rfl .refl r1

/-! ### as values -/
theorem boolOf_eq {r : Rv} {b : Bool} (e : boolOf ρ r = some b) : read ρ r = some (.bool b) := by
  unfold boolOf at e
  split at e
  · rename_i h
    cases e
    exact h
  · cases e
theorem snd_one {e : Expr} {c : C} {op : BoolOp} {pos : Pos} (h : SndE cx X W e c) : SndE cx X W (.BoolOp op [e] pos) c := fun ρ M A σ H Q rel acc => se_of (pe_one pe_se) (h ρ M A σ H Q rel acc)
theorem snd_and {a b : Expr} {rest : List Expr} {ca cb : C} {pos : Pos} (ha : SndE cx X W a ca) (hb : SndE cx X W (.BoolOp .And (b :: rest) pos) cb) : SndE cx X W (.BoolOp .And (a :: b :: rest) pos) (.andv ca cb) := by
  intro ρ M A σ H Q rel acc
  refine se_of (pe_and pe_se (pe_se (e := .BoolOp .And (b :: rest) pos))) (ha.bind rel acc fun x ρ1 v H1 M1 A1 s1 r1 h1 acc1 => ?_)
  obtain ⟨k, ek, acc1⟩ := acc1.of
  rw [(read_ok r1 h1 (boolOf_eq ek)).bl]
  refine ⟨k, rfl, ?_⟩
  cases k with
  | true =>
    rw [if_pos rfl]
    exact hb ρ1 M1 A1 σ H1 Q r1 acc1
  | false =>
    rw [if_neg Bool.false_ne_true]
    exact acc1.d r1 (.bl false)
theorem snd_or {a b : Expr} {rest : List Expr} {ca cb : C} {pos : Pos} (ha : SndE cx X W a ca) (hb : SndE cx X W (.BoolOp .Or (b :: rest) pos) cb) : SndE cx X W (.BoolOp .Or (a :: b :: rest) pos) (.orv ca cb) := by
  intro ρ M A σ H Q rel acc
  refine se_of (pe_or pe_se (pe_se (e := .BoolOp .Or (b :: rest) pos))) (ha.bind rel acc fun x ρ1 v H1 M1 A1 s1 r1 h1 acc1 => ?_)
  obtain ⟨k, ek, acc1⟩ := acc1.of
  rw [(read_ok r1 h1 (boolOf_eq ek)).bl]
  refine ⟨k, rfl, ?_⟩
  cases k with
  | false =>
    rw [if_neg Bool.false_ne_true]
    exact hb ρ1 M1 A1 σ H1 Q r1 acc1
  | true =>
    rw [if_pos rfl]
    exact acc1.d r1 (.bl true)
theorem snd_not {a : Expr} {ca : C} {pos : Pos} (ha : SndE cx X W a ca) : SndE cx X W (.UnaryOp .Not a pos) (.notv ca) := by
  intro ρ M A σ H Q rel acc
  refine se_of (pe_notT pe_se) (ha.bind rel acc fun x ρ1 v H1 M1 A1 s1 r1 h1 acc1 => ?_)
  obtain ⟨d, ed, acc1⟩ := acc1.of
  obtain ⟨k, ek, acc1⟩ := acc1.of
  exact ⟨k, truth_ok ek (read_ok r1 h1 ed), acc1.d r1 (.bl _)⟩
theorem snd_neg {a : Expr} {ca : C} {pos : Pos} (ha : SndE cx X W a ca) : SndE cx X W (.UnaryOp .USub a pos) (.neg ca) := by
  intro ρ M A σ H Q rel acc
  refine se_of (pe_un un_neg pe_se) (ha.bind rel acc fun x ρ1 v H1 M1 A1 s1 r1 h1 acc1 => ?_)
  obtain ⟨d, ed, acc1⟩ := acc1.of
  obtain ⟨k, ek, acc1⟩ := acc1.of
  cases d <;> cases ek
  rw [(read_ok r1 h1 ed).int]
  exact ⟨_, rfl, acc1.d r1 (.int _)⟩
theorem snd_ife {t a b : Expr} {ct ca cb : C} {pos : Pos} (ht : SndT cx X W t ct) (ha : SndE cx X W a ca) (hb : SndE cx X W b cb) : SndE cx X W (.IfExp t a b pos) (.ife ct ca cb) := by
  intro ρ M A σ H Q rel acc
  refine se_of (pe_ifExp pt_st pe_se pe_se) (ht.bind rel acc fun k ρ1 H1 M1 A1 s1 r1 acc1 => ?_)
  obtain ⟨k', ek, acc1⟩ := acc1.of
  cases ek
  cases k with
  | true =>
    rw [if_pos rfl]
    exact ha ρ1 M1 A1 σ H1 Q r1 acc1
  | false =>
    rw [if_neg Bool.false_ne_true]
    exact hb ρ1 M1 A1 σ H1 Q r1 acc1

/-! ### names, constants -/
theorem snd_v {x : Str} {i : Nat} {pos : Pos} (hN : X.N[i]? = some x) (hv : Vis X.env.scope x) (hd : (x == ("__debug__" : Str)) = false) (hcd : (x == ("__classdict__" : Str)) = false) : SndE cx X W (.Name x pos) (.v i) := by
  intro ρ M A σ H Q rel acc
  refine se_of (pe_var hN hv hd hcd) ?_
  simp only [ev] at acc
  cases g : get ρ i with
  | no =>
    rw [g] at acc
    exact acc.elim
  | fz d =>
    rw [g] at acc
    obtain ⟨v, h1, h2⟩ := rel.fz i d g
    exact ⟨v, h1, acc.d rel h2⟩
  | ow d =>
    rw [g] at acc
    obtain ⟨p, h1, h2, h3⟩ := rel.ow i d g
    exact ⟨_, h1, acc _ H M A .refl rel h1⟩
theorem snd_int {i : Int} {k : Nat} {pos : Pos} : SndE cx X W (.Constant (.int i) k pos) (.k (.int i)) := fun ρ M A σ H Q rel acc => se_of pe_int (acc.d rel (.int i))
theorem snd_bl {b : Bool} {k : Nat} {pos : Pos} : SndE cx X W (.Constant (.bool b) k pos) (.k (.bool b)) := fun ρ M A σ H Q rel acc => se_of pe_bl (acc.d rel (.bl b))
theorem snd_non {k : Nat} {pos : Pos} : SndE cx X W (.Constant .none k pos) (.k .none) := fun ρ M A σ H Q rel acc => se_of pe_non (acc.d rel .non)
theorem snd_str {x : Str} {k : Nat} {pos : Pos} : SndE cx X W (.Constant (.str x) k pos) (.k (.str x)) := fun ρ M A σ H Q rel acc => se_of pe_str (acc.d rel (.str x))
theorem snd_glob {x : Str} {i : Int} {t : Tok} {pos : Pos} (hg : Gl X x) (hm : X.mg x = some (.int i t)) (hd : (x == ("__debug__" : Str)) = false) : SndE cx X W (.Name x pos) (.k (.int i)) :=
  fun ρ M A σ H Q rel acc => se_of (pe_glob (v := .int i) hg hm ⟨t, rfl⟩ hd) (acc.d rel (.int i))
theorem snd_fn {x : Str} {f : Addr} {pos : Pos} (hg : Gl X x) (hm : X.mg x = some (.ref f)) (hd : (x == ("__debug__" : Str)) = false) : SndE cx X W (.Name x pos) (.k (fnD x)) :=
  fun ρ M A σ H Q rel acc => se_of (pe_glob (v := .ref f) hg hm rfl hd) (acc.d rel (.fn hm))

/-! ### argument lists, displays -/
theorem sndA_nil : SndA cx X W [] .nil := fun ρ M A σ H Q rel acc => sa_of pa_nil (acc [] [] H M A rfl .refl rel .nil ⟨fun a z => absurd z FrsIn.nil, by rw [show (fun a => FrsIn [] [] a ∨ M a) = M from funext fun a => propext ⟨fun z => z.resolve_left FrsIn.nil, .inr⟩]; exact rel, .nil⟩)
theorem starEach_cons {e : Expr} {es : List Expr} {env : PySem.Env} (h : ∀ a p, e ≠ .Starred a p) : starEach (e :: es) env = (false, eval e env) :: starEach es env := by
  cases e <;> first | rfl | exact absurd rfl (h _ _)
theorem sndA_cons {e : Expr} {es : List Expr} {c cs : C} (hs : ∀ a p, e ≠ .Starred a p) (h : SndE cx X W e c) (hr : SndA cx X W es cs) : SndA cx X W (e :: es) (.cons c cs) := by
  intro ρ M A σ H Q rel acc
  refine sa_of (pa_cons pe_se pa_sa (starEach_cons hs)) ?_
  have acc : AccA X W M A σ H ((ev cx c ρ).bd fun x ρ1 => (ev cx cs ρ1).bd fun y ρ2 => got (listOf y) fun ys => .ok (.l (x :: ys), ρ2)) Q := acc
  refine h ρ M A σ H _ rel ?_
  cases g : ev cx c ρ with
  | no =>
    rw [g] at acc
    exact acc
  | er x =>
    rw [g] at acc
    exact acc
  | ok p =>
    rw [g] at acc
    intro v H1 M1 A1 s1 r1 h1
    have acc : AccA X W M A σ H ((ev cx cs p.2).bd fun y ρ2 => got (listOf y) fun ys => .ok (.l (p.1 :: ys), ρ2)) Q := acc
    by_cases hf : ∃ d, p.1 = .f d
    · obtain ⟨d, hd⟩ := hf
      rw [hd] at r1 h1 acc
      obtain ⟨a, rfl, nA, rs1⟩ := r1
      obtain ⟨a', ea, hn, nm, ho⟩ := h1
      cases ea
      refine hr p.2 _ A1 σ H1 _ rs1 ?_
      cases g2 : ev cx cs p.2 with
      | no =>
        rw [g2] at acc
        exact acc
      | er x =>
        rw [g2] at acc
        exact fun H2 M2 A2 s2 => acc H2 _ A2 (s1.trans (s2.drop nm))
      | ok q =>
        rw [g2] at acc
        intro rs vs H2 M2 A2 e2 s2 r2 h2 q2
        obtain ⟨q1, ρ2⟩ := q
        cases e2
        have nA2 : ¬ A2 a := fun z => nA (s2.subA a z)
        have m2 : M2 a := s2.keep a (.inl rfl) nA
        refine acc _ _ H2 _ A2 rfl (s1.trans (s2.drop nm)) (r2.less (fun b z => z.1) fun b z => ⟨r2.am b z, fun e => nA2 (e ▸ z)⟩) (.cons ⟨a, rfl, hn, fun z => z.2 rfl, ?_⟩ ((h2.less fun b z => z.1).before s1)) ⟨fun b z => ?_, ?_⟩
        all_goals have nF : ¬ FrsIn rs vs a := fun z => (q2.1 a z).2 m2
        · obtain ⟨u, hu⟩ := ho.there
          refine ho.ex ((s2.ex rs1.am).trans (hid_mono (fun b z => ?_) fun _ _ _ e => e)) ((s2.fr a u nA hu).trans hu.symm)
          rcases z with e | z
          · exact e ▸ m2
          · exact z.1
        · rcases FrsIn.cons.mp z with ⟨d', _, e⟩ | z
          · cases e
            exact ⟨nA2, fun z => z.2 rfl⟩
          · exact ⟨(q2.1 b z).1, fun y => (q2.1 b z).2 y.1⟩
        · rw [show (fun b => FrsIn (.f d :: rs) (.ref a :: vs) b ∨ M2 b ∧ b ≠ a) = (fun b => FrsIn rs vs b ∨ M2 b) from funext fun b => propext ⟨?_, ?_⟩]
          · obtain ⟨u, hu⟩ := ho.there
            refine ⟨q2.2.1, .f (.inr m2) nF (ho.ex (fun x o e => ?_) ((s2.fr a u nA hu).trans hu.symm)) q2.2.2⟩
            obtain ⟨n, e⟩ := hid_some.mp ((s2.ex rs1.am) x o e)
            obtain ⟨n1, e1⟩ := hid_some.mp (by assumption : hid (fun a_1 => a_1 = a ∨ M1 a_1) H1 x = some o)
            exact hid_some.mpr ⟨fun z => z.elim (fun z => by rw [frs_new h2 z] at e1; cases e1) n, e⟩
          · rintro (z | z)
            · rcases FrsIn.cons.mp z with ⟨d', _, e⟩ | z
              · cases e
                exact .inr m2
              · exact .inl z
            · exact .inr z.1
          · rintro (z | z)
            · exact .inl (FrsIn.cons.mpr (.inr z))
            · by_cases e : b = a
              · exact .inl (FrsIn.cons.mpr (.inl ⟨d, rfl, by rw [e]⟩))
              · exact .inr ⟨z, e⟩
    · have r1' := r1.weak h1
      refine hr p.2 M1 A1 σ H1 _ r1' ?_
      cases g2 : ev cx cs p.2 with
      | no =>
        rw [g2] at acc
        exact acc
      | er x =>
        rw [g2] at acc
        exact fun H2 M2 A2 s2 => acc H2 _ A2 (s1.trans s2)
      | ok q =>
        rw [g2] at acc
        intro rs vs H2 M2 A2 e2 s2 r2 h2 q2
        obtain ⟨q1, ρ2⟩ := q
        cases e2
        have same : ∀ b, FrsIn (p.1 :: rs) (v :: vs) b ↔ FrsIn rs vs b := fun b => FrsIn.cons.trans ⟨fun z => z.elim (fun ⟨d, e, _⟩ => absurd ⟨d, e⟩ hf) id, .inr⟩
        refine acc _ _ H2 M2 A2 rfl (s1.trans s2) r2 (.cons (h1.step s2 r1'.am) (h2.before s1)) ⟨fun b z => q2.1 b ((same b).mp z), ?_⟩
        rw [show (fun b => FrsIn (p.1 :: rs) (v :: vs) b ∨ M2 b) = (fun b => FrsIn rs vs b ∨ M2 b) from funext fun b => by rw [same b]]
        refine ⟨q2.2.1, ?_⟩
        have ex : Ex (hid M1 H1) (hid (fun b => FrsIn rs vs b ∨ M2 b) H2) := fun x o e1 => by
          obtain ⟨n, e⟩ := hid_some.mp ((s2.ex r1'.am) x o e1)
          obtain ⟨n1, e1⟩ := hid_some.mp e1
          exact hid_some.mpr ⟨fun z => z.elim (fun z => by rw [frs_new h2 z] at e1; cases e1) n, e⟩
        obtain ⟨pr, pe⟩ := p
        cases pr with
        | d d => exact .d (Rp.ex ex h1) q2.2.2
        | f d => exact absurd ⟨d, rfl⟩ hf
        | o i => exact .o q2.2.2
        | l rs => exact h1.elim
theorem escd {rs : List Rv} {vs : List V} {p : List D × Env} {H0 : Hp} (rel : Rel X.K (gm X) M A ρ σ H) (h : RvsOk X.K (gm X) M σ H0 H rs vs) (e : escs ρ rs = some p) :
    ∃ M1 A1, Stp M A H M1 A1 H ∧ Rel X.K (gm X) M1 A1 p.2 σ H ∧ RpA X.K (gm X) (hid M1 H) vs p.1 := escs_ok (ds := p.1) (ρ1 := p.2) rel h e
theorem snd_tup {es : List Expr} {cs : C} {k : Nat} {pos : Pos} (h : SndA cx X W es cs) : SndE cx X W (.Tuple es k pos) (.tup cs) := by
  intro ρ M A σ H Q rel acc
  refine se_of (pe_tupF pa_sa) (h.bind rel acc fun rs ρ1 vs H1 M1 A1 s1 r1 h1 acc1 => ?_)
  obtain ⟨rs', e1, acc1⟩ := acc1.of
  cases e1
  obtain ⟨p, e2, acc1⟩ := acc1.of
  obtain ⟨M2, A2, s2, r2, h2⟩ := escd r1 h1 e2
  by_cases hz : p.1.length ≤ big
  · rw [if_pos hz] at acc1
    exact ⟨by rw [h2.length]; exact bigL hz, fun q o hq ho => (acc1.step s2).newT r2 h2 hq ho⟩
  · rw [if_neg hz] at acc1
    exact acc1.elim
theorem snd_lst {es : List Expr} {cs : C} {pos : Pos} (h : SndA cx X W es cs) : SndE cx X W (.List es pos) (.lst cs) := by
  intro ρ M A σ H Q rel acc
  refine se_of (pe_lst pa_sa) (h.bind rel acc fun rs ρ1 vs H1 M1 A1 s1 r1 h1 acc1 => ?_)
  obtain ⟨rs', e1, acc1⟩ := acc1.of
  cases e1
  obtain ⟨p, e2, acc1⟩ := acc1.of
  obtain ⟨M2, A2, s2, r2, h2⟩ := escd r1 h1 e2
  by_cases hz : p.1.length ≤ big
  · rw [if_pos hz] at acc1
    exact ⟨by rw [h2.length]; exact bigL hz, fun q hq => (acc1.step s2).newL r2 h2 hq⟩
  · rw [if_neg hz] at acc1
    exact acc1.elim

end
end Iv
set_option maxRecDepth 100000
set_option maxHeartbeats 4000000
/-! Iv4: subscripts, slices, sorted, calls. -/
namespace Iv
open PySem PySem.Spec PyProof.Rows L2

/-! ### sorted of a tuple: as of a list -/
section
open PySem.W PySem.Calls
variable {prog : Program} {w : World} {A : Around} {E : Value → Shared → Prop} {s : Shared}
theorem collect_tuple {l : Addr} {vs : List Value} {Q : List Value → Shared → Prop} (hl : s.heap.IsTuple l vs.toArray)
    (h : Q vs { s with heap := (s.heap.push (seqObj "list" #[] 0)).update s.heap.objs.size (Obj.mapSeq (· ++ vs.toArray)) }) (hsz : vs.length ≤ sizeLine) :
    wpAny (model prog w) A (collect (.ref l)) Q E s := by
  obtain ⟨o, ho, hc, n, hd⟩ := id hl
  unfold collect
  refine wpAny_bind (wpAny_runValue (codeAny_builtin entry_proto_collect' ?_))
  show wpAny _ _ (do again (.builtin "list.__iadd__" ⟨[← newList [], .ref l], []⟩)) _ _ s
  refine wpAny_bind (wpAny_newList (wpAny_pure ⟨Code.quiet_builtin _ (by decide +kernel), codeAny_builtin entry_list_iadd' ?_⟩))
  show wpAny _ _ (Builtin.List.listExtendWith (.ref s.heap.objs.size) (.ref l) (.ref s.heap.objs.size)) _ _ { s with heap := s.heap.push (seqObj "list" #[] 0) }
  unfold Builtin.List.listExtendWith
  have ho' : (s.heap.push (seqObj "list" #[] 0)).get? l = some o := Heap.get?_push_of_some _ ho
  refine wpAny_bind (wpAny_typeOf (T := "tuple") ⟨o, ho', hc⟩ ?_)
  have ht : (Value.type "tuple" == Value.type "tuple") = true := by rfl
  rw [if_pos (by rw [ht]; simp)]
  refine wpAny_bind (listItems_at ho' hd ?_)
  refine wpAny_bind (listItems_at (xs := #[]) (n := 0) (Heap.get?_push_size _ rfl) rfl ?_)
  rw [if_neg (by simp)]
  refine wpAny_bind (listUpdate_at (xs := #[]) (n := 0) (Heap.get?_push_size _ rfl) rfl ?_ (Nat.zero_le _) (by show (#[] ++ vs.toArray).size ≤ sizeLine + 1; simp only [Array.size_append, List.size_toArray, List.length_nil]; omega))
  refine wpAny_pure ?_
  show wpAny (model prog w) A (do
      let o ← load s.heap.objs.size
      match o.data with
      | .seq xs _ => pure xs.toList
      | _ => unsupported "internal:collect") Q E { s with heap := (s.heap.push (seqObj "list" #[] 0)).update s.heap.objs.size (Obj.mapSeq (· ++ vs.toArray)) }
  refine wpAny_bind (wpAny_load (get?_update_seq (Heap.get?_push_size _ rfl) _) ?_)
  show wpAny _ _ (pure ((#[] : Array Value) ++ vs.toArray).toList) Q E _
  rw [show ((#[] : Array Value) ++ vs.toArray).toList = vs by simp]
  exact wpAny_pure h
theorem sorted_of_sortT {l : Addr} {vs : List Value} {Q : Value → Shared → Prop} (hl : s.heap.IsTuple l vs.toArray) (hL : vs.length ≤ sizeLine) (ha1 : argsOk "sorted" ⟨[.ref l], []⟩) (ha2 : ∀ x, argsOk "list.sort" ⟨[.ref x], []⟩)
    (body : ∀ E' : Value → Shared → Prop, wpAny (model prog w) A.in1.in1 (Builtin.«list.sort» ⟨[.ref (s.heap.objs.size + 1)], []⟩) (fun f s' => f = .done (.ret .none) ∧ Q (.ref (s.heap.objs.size + 1)) s') E' { s with heap := copyHeap s.heap vs }) :
    wpAny (model prog w) A (call (.builtin "sorted") [.ref l] []) Q E s := by
  refine call_function_entry_kw kind_sorted plain_sorted entry_sorted ha1 ?_
  unfold Builtin.«sorted»
  refine wpAny_bind (m := checkCount "sorted" 1 1 _) (wpAny_pure ?_)
  refine wpAny_bind (collect_tuple hl ?_ hL)
  refine wpAny_bind (wpAny_newList ?_ hL)
  have hsz : ((s.heap.push (seqObj "list" #[] 0)).update s.heap.objs.size (Obj.mapSeq (· ++ vs.toArray))).objs.size = s.heap.objs.size + 1 := by
    rw [Heap.size_update, size_push']
  show wpAny _ _ _ _ _ { s with heap := copyHeap s.heap vs }
  rw [hsz]
  refine wpAny_bind (wpAny_holding (wpAny_call_entry_kw slot_list_sort ⟨_, copyHeap_at s.heap vs, rfl⟩ entry_list_sort ?body (ha2 _)))
  case body =>
    show wpAny (model prog w) A.in1.in1 (Builtin.«list.sort» ⟨[.ref (s.heap.objs.size + 1)], []⟩) _ _ _
    refine wpAny_mono (body _) (fun f s' hf => ?_) fun _ _ e => e
    obtain ⟨rfl, hq⟩ := hf
    exact ⟨_, rfl, wpAny_pure ⟨_, rfl, hq⟩⟩
theorem sorted_dataT {R : Value → PyData → Prop} {vs : List Value} {bs : List PyData} {l : Addr} {Q : Value → Shared → Prop} (hl : s.heap.IsTuple l vs.toArray) (e : EachIs R vs bs) (er : EachIs (fun v b => ∃ as, Reads s.heap v (id b) as) vs bs) (hal : AllAlike (bs.map id)) (hk : PySem.W.Sortable (bs.map id)) (hL : bs.length ≤ sizeLine)
    (hu : ∀ b, b ∈ bs → A.units + 2 + (id b).depth < cLine) (h : ∀ out, out.length = bs.length → EachIs R out (bs.mergeSort (dataLe false id)) → Q (.ref (s.heap.objs.size + 1)) { s with heap := sortedAll s.heap vs (List.toArray out) }) :
    wpAny (model prog w) A (call (.builtin "sorted") [.ref l]) Q E s := by
  have er' : EachIs (fun v b => ∃ as, Reads (sortingHeap (copyHeap s.heap vs) (s.heap.objs.size + 1) vs) v (id b) as) vs bs := er.mono fun _ _ ⟨as, r⟩ => ⟨as, PyProof.Rows.Reads.keeps (fun _ _ => sorting_copy_old) r⟩
  have S := SortsAt.data (prog := prog) (w := w) (A := A.in1.in1) (s := { s with heap := sortingHeap (copyHeap s.heap vs) (s.heap.objs.size + 1) vs }) (each_map (R := fun v d => ∃ as, Reads (sortingHeap (copyHeap s.heap vs) (s.heap.objs.size + 1) vs) v d as) id er') hal hk (bound_map hu)
  have hL2 : vs.length ≤ sizeLine := by rw [e.length]; exact hL
  refine sorted_of_sortT hl hL2 (args_sorted1 _) (fun _ => args_list_sort _) fun _ => list_sort_vals (s := { s with heap := copyHeap s.heap vs }) (copyHeap_at s.heap vs) S hL2 ⟨rfl, ?_⟩
  exact h _ (by rw [sortVals_length false rfl]; exact e.length) (sortVals_data false e er' hal)
end

section
variable {X : Cx} {W : Wish} {M A M1 A1 : Set} {σ : St} {H H1 : Hp} {cx : Ctx} {ρ : Env}

/-! ### subscripts, slices -/
def SIx (X : Cx) : R2 := fun x y H Q => ∀ value slice pins s σ v u, Inv X pins σ H s → RelV x v → RelV y u → subscripted slice false v u = operate [v, u] (getItem v u) → wpAny (model X.prog X.w) X.A (subscriptTail value slice v u) (EP X pins σ Q) X.xe s
theorem ixr_six : IxR X (SIx X) := fun value slice pins s σ H x y v u Q I rx ry h hs => h value slice pins s σ v u I rx ry hs
theorem six_of {r : R2} (h : IxR X r) {x y : V} {Q : VK} (q : r x y H Q) : SIx X x y H Q := fun value slice pins s σ v u I rx ry hs => h value slice pins s σ H x y v u Q I rx ry q hs
theorem plainIx {i : Expr} (h : ∀ a b c p, i ≠ .Slice a b c p) : PlainIx i := by
  intro o k
  cases i <;> first | rfl | exact absurd rfl (h _ _ _ _)
theorem RdOk.scr {K : PySem.W.Frag} {mg : MG} {v : V} {ds : List D} (h : RdOk K mg M H v (.dict [(.bool true, .list ds)])) : ∃ (a : Addr) (ns : List Int), v = .ref a ∧ ds = ns.map .int ∧ SqL K H a (ns.map V.int) := by
  generalize hd : (PyData.dict [(.bool true, .list ds)] : D) = d at h
  rcases h with h | ⟨p, rfl, h⟩
  · cases h with
    | dK h r =>
      cases hd
      rename_i kvs
      cases kvs with
      | nil => cases r
      | cons q t =>
        obtain ⟨k, v⟩ := q
        generalize hk : (kD k, v) = q at r
        cases k <;> cases r <;> cases hk
    | dT h _ r =>
      cases hd
      rename_i kvs _
      cases kvs with
      | nil => cases r
      | cons q t =>
        generalize hk : (PyData.tuple (q.1.map kD), q.2.2) = q' at r
        cases r <;> cases hk
    | fn h => cases hd
    | scr h =>
      cases hd
      exact ⟨_, _, rfl, rfl, SqL.ex hid_le h⟩
    | non => cases hd
    | bl _ => cases hd
    | int _ => cases hd
    | str _ => cases hd
    | lst _ _ => cases hd
    | tup _ _ _ => cases hd
  · subst hd
    rcases h with ⟨o, kvs, h1, h2⟩ | ⟨o, kvs, h1, _, h2⟩
    · cases kvs with
      | nil => cases h2
      | cons q t =>
        obtain ⟨k, v⟩ := q
        generalize hk : (kD k, v) = q at h2
        cases k <;> cases h2 <;> cases hk
    · cases kvs with
      | nil => cases h2
      | cons q t =>
        generalize hk : (PyData.tuple (q.1.map kD), q.2.2) = q' at h2
        cases h2 <;> cases hk
theorem atI_rp {K : PySem.W.Frag} {mg : MG} {xs : List V} {ds : List D} {i : Int} {d : D} (h : RpA K mg H xs ds) (e : atI ds i = some d) : ∃ v, atI xs i = some v ∧ Rp K mg H v d := by
  unfold atI at e ⊢
  rw [h.length]
  cases q : ixN ds.length i with
  | none =>
    rw [q] at e
    cases e
  | some j =>
    rw [q] at e
    exact h.get e
theorem index_ok (hu : X.A.units + 65 < cLine) {a b : D} {z : Rv} {x y : V} {Q : VK} (e : index a b = some z) (rel : Rel X.K (gm X) M A ρ σ H) (hx : RdOk X.K (gm X) M H x a) (hy : RdOk X.K (gm X) M H y b) (acc : AccE X W M A σ H (.ok (z, ρ)) Q) : SIx X x y H Q := by
  unfold index at e
  split at e
  · obtain ⟨d, e1, rfl⟩ := Option.map_eq_some_iff.mp e
    obtain ⟨p, xs, rfl, hp, h1⟩ := hx.lst
    obtain ⟨v, h2, h3⟩ := atI_rp h1 e1
    rw [hy.int]
    exact six_of ix_list ⟨p, xs, _, v, rfl, rfl, SqL.of hp, h2, acc.d rel h3⟩
  · obtain ⟨d, e1, rfl⟩ := Option.map_eq_some_iff.mp e
    obtain ⟨p, xs, o, rfl, hp, d1, h1⟩ := hx.tup
    obtain ⟨v, h2, h3⟩ := atI_rp h1 e1
    rw [hy.int]
    exact six_of ix_tup ⟨p, xs, _, v, rfl, rfl, .inl (.inr ⟨_, hp⟩), h2, acc.d rel h3⟩
  · obtain ⟨d, e1, rfl⟩ := Option.map_eq_some_iff.mp e
    obtain ⟨p, ns, rfl, rfl, h1⟩ := hx.scr
    obtain ⟨v, h2, h3⟩ := atI_rp (rpA_ints (K := X.K) (mg := gm X) (H := hid M H) ns) e1
    rw [hy.int]
    exact six_of ix_list ⟨p, _, _, v, rfl, rfl, h1, h2, acc.d rel h3⟩
  · rename_i kvs _
    by_cases hk : keyOk kvs b = true
    · rw [if_pos hk] at e
      obtain ⟨d, e1, rfl⟩ := Option.map_eq_some_iff.mp e
      obtain ⟨p, rfl, h⟩ := hx.dct (keyOk_dkeys hk)
      intro value slice pins s σ0 v u I rx ry hs
      cases (show v = Value.ref p from rx)
      exact tail_any (dictTy I h).1 slot_dict_getitem.lookup (dI_item (units1 hu) I (dAs I hid_le h (hy.key hk) hk) ry e1 fun v' w' s' I' h1 h2 => ⟨v', H, I', h2, acc.d rel h1⟩) hs
    · rw [if_neg hk] at e
      cases e
  · cases e
theorem snd_ix (hu : X.A.units + 65 < cLine) {a b : Expr} {ca cb : C} {pos : Pos} (hs : ∀ a' b' c p, b ≠ .Slice a' b' c p) (ha : SndE cx X W a ca) (hb : SndE cx X W b cb) : SndE cx X W (.Subscript a b pos) (.ix ca cb) := by
  intro ρ M A σ H Q rel acc
  refine se_of (pe_ix ixr_six pe_se pe_se (plainIx hs)) (ha.bind rel acc fun x ρ1 v H1 M1 A1 s1 r1 h1 acc1 => hb.bind r1 acc1 fun y ρ2 u H2 M2 A2 s2 r2 h2 acc2 => ?_)
  obtain ⟨dx, ex, acc2⟩ := acc2.of
  obtain ⟨dy, ey, acc2⟩ := acc2.of
  obtain ⟨z, ez, acc2⟩ := acc2.of
  exact index_ok hu ez r2 (read_ok r2 (h1.step s2 r1.am) ex) (read_ok r2 h2 ey) acc2

def SPart (X : Cx) : Option Expr → TO
  | none => tNoPart
  | some e => tPart (SE X e)
theorem po_part : ∀ {e : Option Expr}, PO X e (SPart X e)
  | none => po_none
  | some _ => po_some pe_se
inductive SndO (cx : Ctx) (X : Cx) (W : Wish) : Option Expr → C → Prop
  | non : SndO cx X W none (.k .none)
  | som {e : Expr} {c : C} : SndE cx X W e c → SndO cx X W (some e) (.pt c)
/-- what a part gives -/
def PartOk (o : Option Int) (r : Rv) : Prop := match o with
  | none => r = .d .none
  | some i => r = .d (.int i)
theorem SndO.bind {e : Option Expr} {c : C} (h : SndO cx X W e c) (rel : Rel X.K (gm X) M A ρ σ H) {k : Rv → Env → R (Rv × Env)} {Q : VK} {Q1 : Option Int → Hp → Prop} (acc : AccE X W M A σ H ((ev cx c ρ).bd k) Q)
    (hk : ∀ o x ρ1 H1 M1 A1, PartOk o x → Stp M A H M1 A1 H1 → Rel X.K (gm X) M1 A1 ρ1 σ H1 → AccE X W M1 A1 σ H1 (k x ρ1) Q → Q1 o H1) : SPart X e σ H Q1 := by
  cases h with
  | non => exact hk none (.d .none) ρ H M A rfl .refl rel acc
  | @som e c h =>
    have acc : AccE X W M A σ H (((ev cx c ρ).bd fun x ρ1 => got (read ρ1 x) fun d => got (intOf d) fun i => .ok (.d (.int i), ρ1)).bd k) Q := acc
    have acc : AccE X W M A σ H ((ev cx c ρ).bd fun x ρ1 => got (read ρ1 x) fun d => got (intOf d) fun i => k (.d (.int i)) ρ1) Q := by
      cases g : ev cx c ρ with
      | no => rw [g] at acc; exact acc
      | er x => rw [g] at acc; exact acc
      | ok p =>
        rw [g] at acc
        have acc : AccE X W M A σ H ((got (read p.2 p.1) fun d => got (intOf d) fun i => (R.ok (Rv.d (.int i), p.2) : R (Rv × Env))).bd k) Q := acc
        show AccE X W M A σ H (got (read p.2 p.1) fun d => got (intOf d) fun i => k (.d (.int i)) p.2) Q
        cases h1 : read p.2 p.1 with
        | none => rw [h1] at acc; exact acc
        | some d =>
          rw [h1] at acc
          have acc : AccE X W M A σ H ((got (intOf d) fun i => (R.ok (Rv.d (.int i), p.2) : R (Rv × Env))).bd k) Q := acc
          show AccE X W M A σ H (got (intOf d) fun i => k (.d (.int i)) p.2) Q
          cases h2 : intOf d with
          | none => rw [h2] at acc; exact acc
          | some i => rw [h2] at acc; exact acc
    refine h.bind rel acc fun x ρ1 v H1 M1 A1 s1 r1 h1 acc1 => ?_
    obtain ⟨d, ed, acc1⟩ := acc1.of
    obtain ⟨i, ei, acc1⟩ := acc1.of
    cases d <;> cases ei
    exact ⟨i, (read_ok r1 h1 ed).int, hk (some i) _ ρ1 H1 M1 A1 rfl s1 r1 acc1⟩
theorem PartOk.part {o : Option Int} {x : Rv} {d : D} {p : Option Int} (h : PartOk o x) (e : read ρ x = some d) (e2 : part d = some p) : p = o := by
  cases o with
  | none =>
    cases (show x = .d .none from h)
    cases e
    cases e2
    rfl
  | some i =>
    cases (show x = .d (.int i) from h)
    cases e
    cases e2
    rfl
theorem RpA.cut {K : PySem.W.Frag} {mg : MG} {xs : List V} {ds : List D} {lo hi : Option Int} (h : RpA K mg H xs ds) : RpA K mg H (cutV xs lo hi) (cutD ds lo hi) := by
  unfold cutV cutD
  rw [h.length]
  exact (h.drop _).take _
theorem cut_whole {ds : List D} {lo hi : Option Int} (h : HT.sIx ds.length 0 lo = 0 ∧ HT.sIx ds.length ds.length hi = ds.length) : cutD ds lo hi = ds := by
  unfold cutD
  rw [h.1, h.2]
  simp
theorem snd_sl {a : Expr} {lo hi : Option Expr} {ca cl ch : C} {pos p2 : Pos} (ha : SndE cx X W a ca) (hl : SndO cx X W lo cl) (hh : SndO cx X W hi ch) : SndE cx X W (.Subscript a (.Slice lo hi none p2) pos) (.sl ca cl ch) := by
  intro ρ M A σ H Q rel acc
  refine se_of (pe_slice (sl_list.or sl_tupF) pe_se po_part po_part) (ha.bind rel acc fun x ρ1 v H1 M1 A1 s1 r1 h1 acc1 => hl.bind r1 acc1 fun o y ρ2 H2 M2 A2 po s2 r2 acc2 => hh.bind r2 acc2 fun o' z ρ3 H3 M3 A3 po' s3 r3 acc3 => ?_)
  obtain ⟨dx, ex, acc3⟩ := acc3.of
  obtain ⟨dy, ey, acc3⟩ := acc3.of
  obtain ⟨dz, ez, acc3⟩ := acc3.of
  obtain ⟨r, er, acc3⟩ := acc3.of
  have hx := read_ok r3 ((h1.step s2 r1.am).step s3 r2.am) ex
  unfold slice at er
  split at er
  · obtain ⟨i, ei, er⟩ := Option.bind_eq_some_iff.mp er
    obtain ⟨j, ej, er⟩ := Option.bind_eq_some_iff.mp er
    cases er
    cases po.part ey ei
    cases po'.part ez ej
    obtain ⟨p, xs, rfl, hp, h2⟩ := hx.lst
    exact .inl ⟨p, xs, rfl, SqL.of hp, fun q hq => acc3.newL r3 h2.cut hq⟩
  · obtain ⟨i, ei, er⟩ := Option.bind_eq_some_iff.mp er
    obtain ⟨j, ej, er⟩ := Option.bind_eq_some_iff.mp er
    cases er
    cases po.part ey ei
    cases po'.part ez ej
    have hx0 := hx
    obtain ⟨p, xs, o, rfl, hp, d1, h2⟩ := hx.tup
    refine .inr ⟨p, xs, rfl, .inl (.inr ⟨_, hp⟩), fun hw => ?_, fun q o hq ho => acc3.newT r3 h2.cut hq ho⟩
    rw [h2.length] at hw
    rw [cut_whole hw] at acc3
    rcases hx0 with hx0 | ⟨_, _, hx0⟩
    · exact acc3.d r3 hx0
    · exact hx0.elim
  · cases er

/-! ### calls of built-ins -/
def SC (X : Cx) (f : Value) : List V → Hp → VK → Prop := fun xs H Q => ∀ pins s σ us, Inv X pins σ H s → Vals xs us → wpAny (model X.prog X.w) X.A (call f us) (EP X pins σ Q) X.xe s
theorem callR_sc {f : Value} : CallR X f (SC X f) := fun pins s σ H xs us Q I r h => h pins s σ us I r
theorem sc_of {f : Value} {r : List V → Hp → VK → Prop} (h : CallR X f r) {xs : List V} {Q : VK} (q : r xs H Q) : SC X f xs H Q := fun pins s σ us I rs => h pins s σ H xs us Q I rs q
theorem RpA.reads {pins : List (Addr × Obj)} {s : Shared} (I : Inv X pins σ H s) : ∀ {vs : List V} {ds : List D} {us : List Value}, RpA X.K (gm X) H vs ds → Vals vs us → (∀ d ∈ ds, d.canLay0 = true) → PySem.W.EachIs (fun u d => (∃ as, Reads s.heap u d as) ∧ ∃ v, RelV v u ∧ Rp X.K (gm X) H v d) us ds
  | _, _, _, .nil, .nil, _ => .nil
  | _, _, _, .cons h r, .cons rv rr, c => by
    obtain ⟨as, q⟩ := Dp.reads I _ _ _ (h.dp (c _ List.mem_cons_self)) rv
    exact .cons ⟨⟨as, q⟩, _, rv, h⟩ (RpA.reads I r rr fun d hd => c d (List.mem_cons_of_mem _ hd))
end

/-! ### x[::-1] -/
theorem rev_parts {prog : Program} {w : World} {A : Around} {E : Value → Shared → Prop} {s : Shared} {sl : Addr} {vl vu vs : Value} {n : Nat} {Q : Int × Int × Nat → Shared → Prop} (hs : s.heap.IsSliceOf sl vl vu vs) (pl : IsPart vl none) (pu : IsPart vu none) (ps : IsPart vs (some (-1)))
    (h : Q ((n : Int) - 1, -1, n) s) : wpAny (model prog w) A (Builtin.Slice.sliceApplied (.ref sl) (pure (n : Int))) Q E s := by
  obtain ⟨os, hos, hcs, hds⟩ := id hs
  unfold Builtin.Slice.sliceApplied Builtin.Slice.sliceFields
  refine wpAny_bind (wpAny_bind (wpAny_field hos hds (x := vl) rfl (wpAny_bind (wpAny_field hos hds (x := vu) rfl (wpAny_bind (wpAny_field hos hds (x := vs) rfl (wpAny_pure ?_)))))))
  refine wpAny_bind (HT.slicePart_ ps ?_)
  show wpAny _ _ (if ((-1 : Int) == 0) = true then _ else _) _ _ s
  rw [if_neg (by decide)]
  refine wpAny_bind (HT.slicePart_ pl (wpAny_bind (HT.slicePart_ pu (wpAny_bind (wpAny_pure ?_)))))
  have e : Builtin.Slice.slicePlaces ((n : Int) - 1) (-1) (-1) = n := by
    unfold Builtin.Slice.slicePlaces
    rw [if_neg (by decide)]
    have : (-(-1 : Int)) = 1 := rfl
    rw [this, Int.ediv_one]
    split <;> omega
  show wpAny _ _ (pure ((n : Int) - 1, (-1 : Int), Builtin.Slice.slicePlaces ((n : Int) - 1) (-1) (-1))) _ _ s
  rw [e]
  exact wpAny_pure h
theorem fm_congr {α β : Type} {f g : α → Option β} : ∀ {l : List α}, (∀ x ∈ l, f x = g x) → l.filterMap f = l.filterMap g
  | [], _ => rfl
  | x :: l, h => by
    rw [List.filterMap_cons, List.filterMap_cons, h x List.mem_cons_self, fm_congr fun y hy => h y (List.mem_cons_of_mem _ hy)]
theorem pick_rev (xs : Array Value) : ((List.range xs.size).filterMap fun (k : Nat) => xs[(((xs.size : Int) - 1) + (k : Int) * -1).toNat]?).toArray = xs.toList.reverse.toArray := by
  congr 1
  have h : ∀ l : List Value, ((List.range l.length).filterMap fun (k : Nat) => l[(((l.length : Int) - 1) + (k : Int) * -1).toNat]?) = l.reverse := by
    intro l
    have e : ((List.range l.length).filterMap fun (k : Nat) => l[(((l.length : Int) - 1) + (k : Int) * -1).toNat]?) = (List.range l.length).filterMap fun (k : Nat) => l.reverse[k]? := by
      refine fm_congr fun k hk => ?_
      have hk := List.mem_range.mp hk
      rw [List.getElem?_reverse hk]
      congr 1
      omega
    rw [e]
    have q : ∀ m : List Value, ((List.range m.length).filterMap fun (k : Nat) => m[k]?) = m := by
      intro m
      induction m with
      | nil => rfl
      | cons x m ih =>
        rw [List.length_cons, List.range_succ_eq_map, List.filterMap_cons, List.filterMap_map]
        show x :: ((List.range m.length).filterMap fun k => m[k]?) = _
        rw [ih]
    have := q l.reverse
    rw [List.length_reverse] at this
    exact this
  have := h xs.toList
  simpa using this
theorem getItem_tup_rev {prog : Program} {w : World} {A : Around} {E : Value → Shared → Prop} {s : Shared} {t sl : Addr} {items : Array Value} {vl vu vs : Value} {Q : Value → Shared → Prop} (ht : IsTup s.heap t items) (hs : s.heap.IsSliceOf sl vl vu vs) (pl : IsPart vl none) (pu : IsPart vu none) (ps : IsPart vs (some (-1)))
    (h : Q (.ref s.heap.objs.size) { s with heap := s.heap.push { cls := .type "tuple", data := .seq items.toList.reverse.toArray } }) (hsz : items.size ≤ sizeLine) : wpAny (model prog w) A (getItem (.ref t) (.ref sl)) Q E s := by
  have htake : sizeOk (.seq items.toList.reverse.toArray) := by
    show items.toList.reverse.toArray.size ≤ sizeLine
    rw [List.size_toArray, List.length_reverse, Array.length_toList]
    exact hsz
  obtain ⟨os, hos, hcs, hds⟩ := id hs
  have hTs : s.TypeIs (.ref sl) "slice" := ⟨os, hos, hcs⟩
  unfold getItem
  try with_reducible refine wpAny_holding ?_
  first | refine wpAny_bind (wpAny_pure ?_) | skip
  refine wpAny_bind (wpAny_sequenceKey ht.typeIs (by decide) ?_)
  refine wpAny_bind (wpAny_callSpecial?_slot (name := Str.ofString "__getitem__") ht.typeIs PyProof.Rows.slot_tuple_getitem
    (wpAny_call_entry PyProof.Rows.slot_tuple_getitem ht.typeIs entry_tuple_getitem ?_ (args_tuple_getitem _ _)))
  show wpAny _ _ (Builtin.Tuple.tupleItemsOf (.ref t) >>= _) _ _ s
  refine wpAny_bind (tupleItemsOf_ ht ?_)
  refine wpAny_bind (wpAny_typeOf hTs ?_)
  rw [if_pos (by decide)]
  refine wpAny_bind (rev_parts hs pl pu ps ?_)
  have hno : ¬ ((((items.size : Int) - 1) == 0 && (-1 : Int) == 1 && items.size == items.size) = true) := by
    intro q
    rw [Bool.and_eq_true, Bool.and_eq_true] at q
    exact absurd q.1.2 (by decide)
  show wpAny _ _ (if (((items.size : Int) - 1) == 0 && (-1 : Int) == 1 && items.size == items.size) = true then _ else _) _ _ s
  rw [if_neg hno, pick_rev]
  first
    | exact wpAny_bind (m := Builtin.Tuple.tupleExact _) (wpAny_newObj_type (wpAny_pure ⟨_, rfl, wpAny_pure h⟩) htake)
    | exact wpAny_bind (wpAny_bind (m := Builtin.Tuple.tupleExact _) (wpAny_newObj_type (wpAny_pure (wpAny_pure ⟨_, rfl, wpAny_pure h⟩)) htake))
    | exact wpAny_bind (wpAny_bind (m := Builtin.Tuple.tupleExact _) (wpAny_newObj_type (wpAny_pure ⟨_, rfl, wpAny_pure h⟩) htake))

/-- x[::-1], x a list or a tuple -/
def tRev (K : PySem.W.Frag) (te : TE) : TE := fun σ H Q => te σ H fun x H1 => ∃ a xs, x = .ref a ∧ ((SqL K H1 a xs ∧ ∀ p, H1 p = none → Q (.ref p) (upd H1 p (.lst xs.reverse))) ∨ (SqT K H1 a xs ∧ NewT H1 xs.reverse Q))
section
variable {X : Cx} {W : Wish} {M A M1 A1 : Set} {σ : St} {H H1 : Hp} {cx : Ctx} {ρ : Env}
theorem pe_rev {e : Expr} {te : TE} {k : Nat} {p1 p2 p3 pos : Pos} (he : PE X e te) : PE X (.Subscript e (.Slice none none (some (.UnaryOp .USub (.Constant (.int 1) k p1) p2)) p3) pos) (tRev X.K te) := by
  refine ⟨fun pins s0 σ H Q I hq => ?_⟩
  refine Subscript_ (thn (he.run pins s0 σ H _ I hq) fun v t1 ⟨x, H1, J1, r1, g⟩ => ?_)
  obtain ⟨a, xs, ex, g⟩ := g
  subst ex
  cases r1
  have step1 : PO X (some (.UnaryOp .USub (.Constant (.int 1) k p1) p2)) (tPart (tUn (rU fun i => .int (-i)) (tC (.int 1)))) := po_some (pe_un un_neg pe_int)
  refine wpAny_Slice (thn (po_none.run pins t1 σ H1 (fun o G => o = none ∧ G = H1) J1 ⟨rfl, rfl⟩) fun vl t2 ⟨l, G2, J2, pl, el, e2⟩ => ?_)
  subst el e2
  refine thn (po_none.run pins t2 σ G2 (fun o G => o = none ∧ G = G2) J2 ⟨rfl, rfl⟩) fun vu t3 ⟨u, G3, J3, pu, eu, e3⟩ => ?_
  subst eu e3
  refine thn (step1.run pins t3 σ G3 (fun o G => o = some (-1) ∧ G = G3) J3 ⟨1, rfl, -1, rfl, rfl, rfl⟩) fun vs t4 ⟨o, G4, J4, ps, eo, e4⟩ => ?_
  subst eo e4
  have J5 : Inv X pins σ G4 { t4 with heap := t4.heap.push { cls := .type "slice", data := .fields #[vl, vu, vs] } } := J4.kept (t' := t4.toks) fun b ob q => Heap.get?_push_of_some _ q
  show wpAny (model X.prog X.w) X.A (subscriptTail e (.Slice none none (some (.UnaryOp .USub (.Constant (.int 1) k p1) p2)) p3) (.ref a) (.ref t4.heap.objs.size)) (EP X pins σ Q) X.xe { t4 with heap := t4.heap.push { cls := .type "slice", data := .fields #[vl, vu, vs] } }
  rcases g with ⟨hx, q⟩ | ⟨hx, q⟩
  · obtain ⟨its, r, ht, hz⟩ := J5.list hx
    have hlen := r.length
    refine tail_any (ops := [.ref a, .ref t4.heap.objs.size]) ht.isList.typeIs (PySem.slot_list_getitem.lookup) ?_ (by with_unfolding_all rfl)
    refine wpAny_getItem_list_slice ht.isList (Heap.IsSliceOf.new _ vl vu vs) pl pu ps (by decide) ?_ (by rw [List.size_toArray]; omega)
    rw [PySem.W.krv_pick]
    exact ⟨.ref _, _, J5.laid (t' := t4.toks) (o := .lst xs.reverse) (fun b ob q => Heap.get?_push_of_some _ q) (Nat.le_refl _) ⟨by rw [List.length_reverse]; exact hz, _, 0, r.reverse, Heap.get?_push_size _ rfl⟩, rfl, q _ (J5.hok.fresh (Nat.le_refl _))⟩
  · obtain ⟨its, r, ht, hz⟩ := J5.tuple hx
    have hlen := r.length
    refine tail_any (ops := [.ref a, .ref t4.heap.objs.size]) ht.typeIs (PyProof.Rows.slot_tuple_getitem.lookup) ?_ (by with_unfolding_all rfl)
    refine getItem_tup_rev ht (Heap.IsSliceOf.new _ vl vu vs) pl pu ps ?_ (by rw [List.size_toArray]; omega)
    exact ⟨.ref _, _, Inv.laidT (t' := t4.toks) J5 (fun _ _ q => q) r.reverse (by rw [List.length_reverse]; exact hz), rfl, q _ _ J5.fresh rfl⟩
theorem snd_rev {e : Expr} {c : C} {k : Nat} {p1 p2 p3 pos : Pos} (he : SndE cx X W e c) : SndE cx X W (.Subscript e (.Slice none none (some (.UnaryOp .USub (.Constant (.int 1) k p1) p2)) p3) pos) (.rev c) := by
  intro ρ M A σ H Q rel acc
  refine se_of (pe_rev pe_se) (he.bind rel acc fun x ρ1 v H1 M1 A1 s1 r1 h1 acc1 => ?_)
  obtain ⟨d, ed, acc2⟩ := acc1.of
  obtain ⟨z, ez, acc3⟩ := acc2.of
  have rd := read_ok r1 h1 ed
  cases d with
  | list ds =>
    cases ez
    obtain ⟨p, xs, rfl, hp, hr⟩ := rd.lst
    exact ⟨p, xs, rfl, .inl ⟨SqL.of hp, fun l hl => acc3.newL r1 hr.reverse hl⟩⟩
  | tuple ds =>
    cases ez
    obtain ⟨p, xs, o, rfl, hp, hd, hr⟩ := rd.tup
    exact ⟨p, xs, rfl, .inr ⟨.inl (.inr ⟨_, hp⟩), fun l o hl ho => acc3.newT r1 hr.reverse hl ho⟩⟩
  | none => cases ez
  | bool _ => cases ez
  | int _ => cases ez
  | str _ => cases ez
  | dict _ => cases ez
end
end Iv
set_option maxRecDepth 100000
set_option maxHeartbeats 4000000
/-! Iv4s: sorted of a dict. -/
namespace Iv
open PySem PySem.Spec PyProof.Rows L2
section
open PySem.W PySem.Calls
variable {prog : Program} {w : World} {A : Around} {E : Value → Shared → Prop} {s : Shared}
/-- sorted of what can be collected -/
theorem sorted_collect {R : Value → PyData → Prop} {r : Addr} {bs : List PyData} {Cc : List Value → Prop} {Q : Value → Shared → Prop}
    (hc : ∀ (E' : Value → Shared → Prop) (R' : List Value → Shared → Prop), (∀ (h' : Heap) (tk : Nat) (vs : List Value), (∀ b o, s.heap.get? b = some o → h'.get? b = some o) → Cc vs → R' vs { s with heap := h', toks := tk }) → wpAny (model prog w) A.in1 (collect (.ref r)) R' E' s)
    (e : ∀ vs, Cc vs → EachIs R vs bs) (er : ∀ vs, Cc vs → EachIs (fun v b => ∃ as, Reads s.heap v (id b) as) vs bs) (hal : AllAlike (bs.map id)) (hk : PySem.W.Sortable (bs.map id)) (hL : bs.length ≤ sizeLine)
    (hu : ∀ b, b ∈ bs → A.units + 2 + (id b).depth < cLine)
    (h : ∀ (h' : Heap) (tk : Nat) (out : List Value) (ep : Nat) (h'' : Heap), (∀ b o, s.heap.get? b = some o → h'.get? b = some o) → (∀ b o, h'.get? b = some o → h''.get? b = some o) → h''.get? h'.objs.size = some (seqObj "list" (List.toArray out) ep) → out.length = bs.length → EachIs R out (bs.mergeSort (dataLe false id)) → Q (.ref h'.objs.size) { s with heap := h'', toks := tk }) :
    wpAny (model prog w) A (call (.builtin "sorted") [.ref r]) Q E s := by
  refine call_function_entry kind_sorted plain_sorted entry_sorted (args_sorted1 _) ?_
  unfold Builtin.«sorted»
  refine wpAny_bind (m := checkCount "sorted" 1 1 _) (wpAny_pure ?_)
  refine wpAny_bind (hc _ _ fun h' tk vs hk' hcv => ?_)
  have e1 := e vs hcv
  have hL2 : vs.length ≤ sizeLine := by rw [e1.length]; exact hL
  refine wpAny_bind (wpAny_newList ?_ hL2)
  have ho : (h'.push (seqObj "list" vs.toArray 0)).get? h'.objs.size = some (seqObj "list" vs.toArray 0) := Heap.get?_push_size _ rfl
  have lt : ∀ {b o}, s.heap.get? b = some o → b < h'.objs.size := fun q => Heap.lt_size (hk' _ _ q)
  have er' : EachIs (fun v b => ∃ as, Reads (sortingHeap (h'.push (seqObj "list" vs.toArray 0)) h'.objs.size vs) v (id b) as) vs bs := (er vs hcv).mono fun _ _ ⟨as, rr⟩ => ⟨as, PyProof.Rows.Reads.keeps (fun b o q => sortingHeap_old (Nat.ne_of_lt (lt q)) (Heap.get?_push_of_some _ (hk' _ _ q))) rr⟩
  have S := SortsAt.data (prog := prog) (w := w) (A := A.in1.in1) (s := { s with heap := sortingHeap (h'.push (seqObj "list" vs.toArray 0)) h'.objs.size vs, toks := tk }) (each_map (R := fun v d => ∃ as, Reads (sortingHeap (h'.push (seqObj "list" vs.toArray 0)) h'.objs.size vs) v d as) id er') hal hk (bound_map hu)
  obtain ⟨ep, hat⟩ := PyProof.Rows.sortedHeap_at (out := (sortVals _ false vs vs).toArray) ho
  have fin := h h' tk (sortVals _ false vs vs) ep _ hk' (fun b o q => by
    have lt := Heap.lt_size q
    rw [PyProof.Rows.sortedHeap_old (Nat.ne_of_lt lt) (by rw [size_push']; exact Nat.lt_succ_of_lt lt)]
    exact Heap.get?_push_of_some _ q) hat (by rw [sortVals_length false rfl]; exact e1.length) (sortVals_data false e1 er' hal)
  refine wpAny_bind (wpAny_holding (wpAny_call_entry slot_list_sort ⟨_, ho, rfl⟩ entry_list_sort ?body (args_list_sort _)))
  case body =>
    show wpAny (model prog w) A.in1.in1 (Builtin.«list.sort» ⟨[.ref h'.objs.size], []⟩) _ _ _
    exact list_sort_vals (s := { s with heap := h'.push (seqObj "list" vs.toArray 0), toks := tk }) ho S hL2 ⟨_, rfl, wpAny_pure ⟨_, rfl, fin⟩⟩
end
/-! ### a dict's keys, its values -/
section
variable {X : Cx} {pins : List (Addr × Obj)} {σ : St} {H G : Hp} {s : Shared}
theorem rp_key {K : PySem.W.Frag} {mg : MG} {k : Key} : Rp K mg G (kV k) (kD k) := by
  cases k with
  | inl i => exact .int i
  | inr x => exact .str x
theorem rpA_keys {K : PySem.W.Frag} {mg : MG} : ∀ ks : List Key, RpA K mg G (ks.map kV) (ks.map kD)
  | [] => .nil
  | _ :: r => .cons rp_key (rpA_keys r)
theorem vals_of {xs : List V} {us : List Value} (hl : xs.length = us.length) (h : ∀ (j : Nat) (x : V) (u : Value), xs[j]? = some x → us[j]? = some u → RelV x u) : Vals xs us := by
  induction xs generalizing us with
  | nil => cases us with | nil => exact .nil | cons _ _ => cases hl
  | cons x xs ih =>
    cases us with
    | nil => cases hl
    | cons u us => exact .cons (h 0 x u rfl rfl) (ih (by simpa using hl) fun j y w a b => h (j + 1) y w (by simpa using a) (by simpa using b))
theorem Paired.at {α β : Type} {r : α → β → Prop} {xs : List α} {ys : List β} (h : PySem.Paired r xs ys) : ∀ {j : Nat} {x : α}, xs[j]? = some x → ∃ y, ys[j]? = some y ∧ r x y := by
  induction h with
  | nil => intro j x e; simp at e
  | @cons p q ps qs h t ih =>
    intro j x e
    cases j with
    | zero =>
      simp at e
      subst e
      exact ⟨_, rfl, h⟩
    | succ j => exact ih (by simpa using e)
/-- the object of a dict: its keys in order, its values in order -/
theorem dict_parts {p : Addr} {ds : List (D × D)} (I : Inv X pins σ H s) (h : DictAtG X G H p ds) : ∃ (o : Obj) (es : Array DictEntry) (ep : Nat) (ks vs : List V), s.heap.get? p = some o ∧ o.ExactDict ∧ o.data = .dict es ep ∧ (p == sysModules) = false ∧ es.size ≤ sizeLine ∧ es.size = ds.length ∧
    RpA X.K (gm X) G ks (ds.map (·.1)) ∧ RpA X.K (gm X) G vs (ds.map (·.2)) ∧ (∀ us : List Value, us.length = es.size → (∀ (j : Nat) (u : Value), us[j]? = some u → ∃ en : DictEntry, es[j]? = some en ∧ u = en.key) → Vals ks us) ∧
    ∀ us : List Value, us.length = es.size → (∀ (j : Nat) (u : Value), us[j]? = some u → ∃ en : DictEntry, es[j]? = some en ∧ u = en.val) → Vals vs us := by
  rcases h with ⟨o, kvs, ha, r⟩ | ⟨o, xs, ha, rk, r⟩
  · obtain ⟨⟨h1, z, hm, hx, es, ep, vs, h5, kv, hko, hp, hnd⟩, _⟩ := (show ObjOk X.prog X.w H s.heap p (DKo (gm X) p o kvs) from I.hok p _ ha)
    have l1 : es.size = vs.length := by rw [← Array.length_toList]; exact hp.length
    have l2 : kvs.length = vs.length := Paired.length kv
    have l3 : kvs.length = ds.length := by have := r.length; rwa [List.length_map] at this
    have ek : kvs.map (fun p => kD p.1) = ds.map (·.1) := by have := r.keys; rwa [List.map_map] at this
    have hent : ∀ (j : Nat) (q : Key × V), kvs[j]? = some q → ∃ u en, vs[j]? = some (q.1, u) ∧ es[j]? = some en ∧ keyIs q.1 en.key = true ∧ en.val = u ∧ RelV q.2 u := by
      intro j q hq
      obtain ⟨u, hu, ru⟩ := kv_get (k := q.1) (v := q.2) kv hq
      have hj : j < es.size := by have := (List.getElem?_eq_some_iff.mp hu).1; omega
      obtain ⟨h6, h7⟩ := hp.get? (e := es[j]) (by simp [hj]) hu
      exact ⟨u, es[j], hu, by simp [hj], h6, h7, ru⟩
    refine ⟨o, es, ep, kvs.map fun p => kV p.1, kvs.map (·.2), h1, hx, h5, hm, by omega, by omega, ?_, ?_, ?_, ?_⟩
    · rw [← ek]
      have := rpA_keys (G := G) (K := X.K) (mg := gm X) (kvs.map (·.1))
      rw [List.map_map, List.map_map] at this
      exact this
    · have := r.vals
      rw [List.map_map] at this
      exact this
    · intro us hl hus
      refine vals_of (by rw [List.length_map]; omega) fun j x u hx hu => ?_
      rw [List.getElem?_map] at hx
      obtain ⟨q, hq, rfl⟩ := Option.map_eq_some_iff.mp hx
      obtain ⟨w', en, _, he, hk, _⟩ := hent j q hq
      obtain ⟨en', he', rfl⟩ := hus j u hu
      rw [he] at he'
      cases he'
      exact relV_key hk
    · intro us hl hus
      refine vals_of (by rw [List.length_map]; omega) fun j x u hx hu => ?_
      rw [List.getElem?_map] at hx
      obtain ⟨q, hq, rfl⟩ := Option.map_eq_some_iff.mp hx
      obtain ⟨w', en, _, he, _, hv, rv⟩ := hent j q hq
      obtain ⟨en', he', rfl⟩ := hus j u hu
      rw [he] at he'
      cases he'
      rw [hv]
      exact rv
  · obtain ⟨⟨h1, z, hm, hx, es, ep, ys, h5, kv, hp, hnd⟩, _⟩ := (show ObjOk X.prog X.w H s.heap p (DTo (gm X) p o xs) from I.hok p _ ha)
    have l1 : es.size = ys.length := size_of_entries hp
    have l2 : xs.length = ys.length := Paired.length kv
    have l3 : xs.length = ds.length := by have := r.length; rwa [List.length_map] at this
    have ek : xs.map (fun p => PyData.tuple (p.1.map kD)) = ds.map (·.1) := by have := r.keys; rwa [List.map_map] at this
    have hent : ∀ (j : Nat) (q : List Key × Addr × V), xs[j]? = some q → ∃ (y : List Key × Addr × Value) (en : DictEntry), ys[j]? = some y ∧ es[j]? = some en ∧ en.key = .ref q.2.1 ∧ en.val = y.2.2 ∧ RelV q.2.2 y.2.2 := by
      intro j q hq
      obtain ⟨y, hy, e1, e2, e3⟩ := Paired.at kv hq
      have qe := entry_at hp j
      rw [hy] at qe
      exact ⟨y, _, hy, qe, by rw [e2]; rfl, rfl, e3⟩
    refine ⟨o, es, ep, xs.map fun p => .ref p.2.1, xs.map fun p => p.2.2, h1, hx, h5, hm, by omega, by omega, ?_, ?_, ?_, ?_⟩
    · rw [← ek]
      exact rk
    · have := r.vals
      rw [List.map_map] at this
      exact this
    · intro us hl hus
      refine vals_of (by rw [List.length_map]; omega) fun j x u hx hu => ?_
      rw [List.getElem?_map] at hx
      obtain ⟨q, hq, rfl⟩ := Option.map_eq_some_iff.mp hx
      obtain ⟨y, en, _, he, hk, _⟩ := hent j q hq
      obtain ⟨en', he', rfl⟩ := hus j u hu
      rw [he] at he'
      cases he'
      rw [hk]
      rfl
    · intro us hl hus
      refine vals_of (by rw [List.length_map]; omega) fun j x u hx hu => ?_
      rw [List.getElem?_map] at hx
      obtain ⟨q, hq, rfl⟩ := Option.map_eq_some_iff.mp hx
      obtain ⟨y, en, _, he, _, hv, rv⟩ := hent j q hq
      obtain ⟨en', he', rfl⟩ := hus j u hu
      rw [he] at he'
      cases he'
      rw [hv]
      exact rv
end
end Iv
set_option maxRecDepth 100000
set_option maxHeartbeats 4000000
/-! Iv5: calls of built-ins, of own defs; methods. -/
namespace Iv
open PySem PySem.Spec PyProof.Rows L2
section
variable {X : Cx} {W : Wish} {M A M1 A1 : Set} {σ : St} {H H1 : Hp} {cx : Ctx} {ρ : Env}

theorem noStar {es : List Expr} {env : PySem.Env} {pos : Pos} (h : ∀ e ∈ es, ∀ a p, e ≠ .Starred a p) : (backTo pos (starEach es env)).any (·.1) = false := by
  have h2 : ∀ x ∈ starEach es env, x.1 = false := by
    induction es with
    | nil => intro x hx; cases hx
    | cons e r ih =>
      rw [starEach_cons (h e List.mem_cons_self)]
      intro x hx
      rcases List.mem_cons.mp hx with rfl | hx
      · rfl
      · exact ih (fun e he => h e (List.mem_cons_of_mem _ he)) x hx
  rw [List.any_eq_false]
  intro x hx
  unfold backTo at hx
  obtain ⟨y, hy, rfl⟩ := List.mem_map.mp hx
  have := h2 y hy
  simpa using this

/-- what a built-in's rule says -/
def BiOk (X : Cx) (W : Wish) (f : Value) (b : Bi) : Prop := ∀ (ds : List D) (z : Rv) (vs : List V) (M A : Set) (σ : St) (ρ : Env) (H : Hp) (Q : VK), builtin b ds = some z → Rel X.K (gm X) M A ρ σ H → RdsOk X.K (gm X) M H vs ds → AccE X W M A σ H (.ok (z, ρ)) Q → SC X f vs H Q
theorem bi_core {f : Value} {b : Bi} {es : List Expr} {cs : C} {Q : VK} (ok : BiOk X W f b) (h : SndA cx X W es cs) (rel : Rel X.K (gm X) M A ρ σ H) (acc : AccE X W M A σ H (ev cx (.bi b cs) ρ) Q) : tCB (SC X f) (SA X es) σ H Q := by
  refine h.bind rel acc fun rs ρ1 vs H1 M1 A1 s1 r1 h1 acc1 => ?_
  obtain ⟨rs', e1, acc1⟩ := acc1.of
  cases e1
  obtain ⟨ds, e2, acc1⟩ := acc1.of
  obtain ⟨z, e3, acc1⟩ := acc1.of
  exact ok ds z vs M1 A1 σ ρ1 H1 Q e3 r1 (reads_ok r1 h1 e2) acc1
theorem snd_biB {x : Str} {id : String} {p pos : Pos} {b : Bi} {e : Expr} {es : List Expr} {cs : C} (ok : BiOk X W (.builtin id) b) (hg : Gl X x) (hm : X.mg x = none) (hv : bootBuiltins x = some (.builtin id)) (hn : x ≠ "__name__") (hdb : (x == ("__debug__" : Str)) = false)
    (hs : ∀ e' ∈ e :: es, ∀ a p, e' ≠ .Starred a p) (h : SndA cx X W (e :: es) cs) : SndE cx X W (.Call (.Name x p) (e :: es) [] pos) (.bi b cs) := fun ρ M A σ H Q rel acc =>
  se_of (pe_callB callR_sc hg hm hv pa_sa hn hdb (starEach_cons (hs e List.mem_cons_self)) (noStar fun e' he => hs e' (List.mem_cons_of_mem _ he))) (bi_core ok h rel acc)
theorem snd_biT {x : Str} {T : String} {p pos : Pos} {b : Bi} {e : Expr} {es : List Expr} {cs : C} (ok : BiOk X W (.type T) b) (hg : Gl X x) (hm : X.mg x = none) (hv : bootBuiltins x = some (.type T)) (hn : x ≠ "__name__") (hdb : (x == ("__debug__" : Str)) = false)
    (hs : ∀ e' ∈ e :: es, ∀ a p, e' ≠ .Starred a p) (h : SndA cx X W (e :: es) cs) : SndE cx X W (.Call (.Name x p) (e :: es) [] pos) (.bi b cs) := fun ρ M A σ H Q rel acc =>
  se_of (pe_callTy callR_sc hg hm hv pa_sa hn hdb (starEach_cons (hs e List.mem_cons_self)) (noStar fun e' he => hs e' (List.mem_cons_of_mem _ he))) (bi_core ok h rel acc)

theorem RdsOk.one {K : PySem.W.Frag} {mg : MG} {vs : List V} {d : D} (h : RdsOk K mg M H vs [d]) : ∃ v, vs = [v] ∧ RdOk K mg M H v d := by
  cases h with
  | cons h r => cases r; exact ⟨_, rfl, h⟩
theorem RdsOk.two {K : PySem.W.Frag} {mg : MG} {vs : List V} {d e : D} (h : RdsOk K mg M H vs [d, e]) : ∃ v w, vs = [v, w] ∧ RdOk K mg M H v d ∧ RdOk K mg M H w e := by
  cases h with
  | cons h r =>
    obtain ⟨w, rfl, h2⟩ := r.one
    exact ⟨_, w, rfl, h, h2⟩
/-- a rule of one argument -/
theorem ok1 {f : Value} {b : Bi} {g : D → Option Rv} (hb : builtin b = un1 g)
    (ok : ∀ (d : D) (z : Rv) (v : V) (M A : Set) (σ : St) (ρ : Env) (H : Hp) (Q : VK), g d = some z → Rel X.K (gm X) M A ρ σ H → RdOk X.K (gm X) M H v d → AccE X W M A σ H (.ok (z, ρ)) Q → SC X f [v] H Q) : BiOk X W f b := by
  intro ds z vs M A σ ρ H Q e rel h acc
  rw [hb] at e
  unfold un1 at e
  split at e
  · obtain ⟨v, rfl, h1⟩ := h.one
    exact ok _ z v M A σ ρ H Q e rel h1 acc
  · cases e
theorem ok2 {f : Value} {b : Bi} {g : D → D → Option Rv} (hb : builtin b = un2 g)
    (ok : ∀ (d e : D) (z : Rv) (v w : V) (M A : Set) (σ : St) (ρ : Env) (H : Hp) (Q : VK), g d e = some z → Rel X.K (gm X) M A ρ σ H → RdOk X.K (gm X) M H v d → RdOk X.K (gm X) M H w e → AccE X W M A σ H (.ok (z, ρ)) Q → SC X f [v, w] H Q) : BiOk X W f b := by
  intro ds z vs M A σ ρ H Q e rel h acc
  rw [hb] at e
  unfold un2 at e
  split at e
  · obtain ⟨v, w, rfl, h1, h2⟩ := h.two
    exact ok _ _ z v w M A σ ρ H Q e rel h1 h2 acc
  · cases e
theorem ok_len : BiOk X W (.builtin "len") .len := ok1 rfl fun d z v M A σ ρ H Q e rel h acc => by
  unfold fLen at e
  split at e
  · cases e
    obtain ⟨p, xs, rfl, hp, h1⟩ := h.lst
    refine sc_of call_len_seq ⟨p, xs, rfl, .inl (SqL.of hp), ?_⟩
    rw [h1.length]
    exact acc.d rel (.int _)
  · cases e
    obtain ⟨p, xs, o, rfl, hp, d1, h1⟩ := h.tup
    refine sc_of call_len_seq ⟨p, xs, rfl, .inr (.inl (.inr ⟨_, hp⟩)), ?_⟩
    rw [h1.length]
    exact acc.d rel (.int _)
  · cases e
    obtain ⟨p, ns, rfl, rfl, h1⟩ := h.scr
    refine sc_of call_len_seq ⟨p, _, rfl, .inl h1, ?_⟩
    rw [List.length_map] at acc ⊢
    exact acc.d rel (.int _)
  · split at e <;> cases e
    rename_i hz
    rw [h.str]
    exact sc_of call_len_str ⟨_, rfl, bigL hz, acc.d rel (.int _)⟩
  · cases e
theorem ok_sum (hc : X.calm = true) : BiOk X W (.builtin "sum") .sum := ok1 rfl fun d z v M A σ ρ H Q e rel h acc => by
  unfold fSum at e
  split at e
  · obtain ⟨ns, e1, e2⟩ := Option.bind_eq_some_iff.mp e
    cases e2
    obtain ⟨p, xs, rfl, hp, h1⟩ := h.lst
    rw [intsD_eq e1] at h1
    rw [h1.ints] at hp
    exact sc_of (cr_sum hc) ⟨p, ns, rfl, SqL.of hp, acc.d rel (.int _)⟩
  · cases e
theorem ok_all (hc : X.calm = true) : BiOk X W (.builtin "all") .all := ok1 rfl fun d z v M A σ ρ H Q e rel h acc => by
  unfold fAll at e
  split at e
  · obtain ⟨ns, e1, e2⟩ := Option.bind_eq_some_iff.mp e
    cases e2
    obtain ⟨p, xs, rfl, hp, h1⟩ := h.lst
    rw [boolsD_eq e1] at h1
    rw [h1.bools] at hp
    exact sc_of (cr_all hc) ⟨p, ns, rfl, SqL.of hp, acc.d rel (.bl _)⟩
  · cases e
theorem ok_max2 (hc : X.calm = true) : BiOk X W (.builtin "max") .max2 := ok2 rfl fun d e z v w M A σ ρ H Q he rel h h' acc => by
  unfold fMax2 at he
  split at he
  · cases he
    rw [h.int, h'.int]
    exact sc_of (call_max2 hc) ⟨_, _, rfl, acc.d rel (.int _)⟩
  · cases he
theorem ok_min2 (hc : X.calm = true) : BiOk X W (.builtin "min") .min2 := ok2 rfl fun d e z v w M A σ ρ H Q he rel h h' acc => by
  unfold fMin2 at he
  split at he
  · cases he
    rw [h.int, h'.int]
    exact sc_of (call_min2 hc) ⟨_, _, rfl, acc.d rel (.int _)⟩
  · cases he
theorem RdOk.seq {K : PySem.W.Frag} {mg : MG} {v : V} {d : D} {ds : List D} (e : seqOf d = some ds) (h : RdOk K mg M H v d) : ∃ p xs, v = .ref p ∧ (SqL K H p xs ∨ SqT K H p xs) ∧ RpA K mg (hid M H) xs ds := by
  unfold seqOf at e
  split at e
  · cases e
    obtain ⟨p, xs, rfl, hp, h1⟩ := h.lst
    exact ⟨p, xs, rfl, .inl (SqL.of hp), h1⟩
  · cases e
    obtain ⟨p, xs, o, rfl, hp, d1, h1⟩ := h.tup
    exact ⟨p, xs, rfl, .inr (.inl (.inr ⟨_, hp⟩)), h1⟩
  · cases e
theorem ok_list : BiOk X W (.type "list") .list := ok1 rfl fun d z v M A σ ρ H Q e rel h acc => by
  unfold fList at e
  obtain ⟨ds, e1, e2⟩ := Option.bind_eq_some_iff.mp e
  cases e2
  obtain ⟨p, xs, rfl, hq, h1⟩ := h.seq e1
  exact sc_of call_list_of ⟨p, xs, rfl, hq, fun l hl => acc.newL rel h1 hl⟩
theorem ok_tuple : BiOk X W (.type "tuple") .tuple := ok1 rfl fun d z v M A σ ρ H Q e rel h acc => by
  unfold fTuple at e
  obtain ⟨ds, e1, e2⟩ := Option.bind_eq_some_iff.mp e
  cases e2
  unfold seqOf at e1
  split at e1
  · cases e1
    obtain ⟨p, xs, rfl, hp, h1⟩ := h.lst
    exact sc_of call_tupleF ⟨p, xs, rfl, .inl ⟨SqL.of hp, fun l o hl ho => acc.newT rel h1 hl ho⟩⟩
  · cases e1
    have h0 := h
    obtain ⟨p, xs, o, rfl, hp, d1, h1⟩ := h.tup
    rcases h0 with h0 | ⟨_, _, h0⟩
    · exact sc_of call_tupleF ⟨p, xs, rfl, .inr ⟨.inl (.inr ⟨_, hp⟩), acc.d rel h0⟩⟩
    · exact h0.elim
  · cases e1
theorem ok_int : BiOk X W (.type "int") .int := ok1 rfl fun d z v M A σ ρ H Q e rel h acc => by
  unfold fInt at e
  split at e
  · cases e
    rw [h.int]
    exact sc_of call_int1 (.inl ⟨_, rfl, acc.d rel (.int _)⟩)
  · cases e
    rw [h.bl]
    exact sc_of call_int1 (.inr ⟨_, rfl, acc.d rel (.int _)⟩)
  · cases e

/-! ### sorted -/
theorem EachIs.vals {K : PySem.W.Frag} {mg : MG} {G : Hp} : ∀ {us : List Value} {ds : List D}, PySem.W.EachIs (fun u d => ∃ v, RelV v u ∧ Rp K mg G v d) us ds → ∃ vs, Vals vs us ∧ RpA K mg G vs ds
  | _, _, .nil => ⟨[], .nil, .nil⟩
  | _, _, .cons ⟨v, rv, h⟩ r => by
    obtain ⟨vs, h1, h2⟩ := EachIs.vals r
    exact ⟨v :: vs, .cons rv h1, .cons h h2⟩
theorem RpA.each {K : PySem.W.Frag} {mg : MG} {G : Hp} : ∀ {vs : List V} {us : List Value} {ds : List D}, RpA K mg G vs ds → Vals vs us → PySem.W.EachIs (fun u d => ∃ v, RelV v u ∧ Rp K mg G v d) us ds
  | _, _, _, .nil, .nil => .nil
  | _, _, _, .cons h r, .cons rv rr => .cons ⟨_, rv, h⟩ (RpA.each r rr)
theorem RpA.eachR {pins : List (Addr × Obj)} {s : Shared} (I : Inv X pins σ H s) : ∀ {vs : List V} {us : List Value} {ds : List D}, RpA X.K (gm X) H vs ds → Vals vs us → (∀ d ∈ ds, SeqAt.shaped d = true) → PySem.W.EachIs (fun u d => ∃ as, Reads s.heap u (id d) as) us ds
  | _, _, _, .nil, .nil, _ => .nil
  | _, _, _, .cons h r, .cons rv rr, c => .cons (Dp.reads I _ _ _ (h.shaped (c _ List.mem_cons_self)) rv) (RpA.eachR I r rr fun d hd => c d (List.mem_cons_of_mem _ hd))
theorem alikeAll_ok {ds : List D} (h : alikeAll ds = true) : PySem.W.AllAlike (ds.map id) := by
  rw [List.map_id]
  intro d hd d' hd'
  unfold alikeAll at h
  exact List.all_eq_true.mp (List.all_eq_true.mp h d hd) d' hd'
theorem sortable_ok {ds : List D} (h : sortable ds = true) : PySem.W.Sortable (ds.map id) := by
  rw [List.map_id]
  unfold sortable at h
  rcases Bool.or_eq_true_iff.mp h with h | h
  · refine .inl fun d hd => ?_
    have q := List.all_eq_true.mp h d hd
    cases d with
    | tuple xs =>
      cases xs with
      | nil => cases q
      | cons x r => exact ⟨x, r, rfl⟩
    | none => cases q
    | bool _ => cases q
    | int _ => cases q
    | str _ => cases q
    | list _ => cases q
    | dict _ => cases q
  · refine .inr fun d hd => ?_
    have q := List.all_eq_true.mp h d hd
    cases d with
    | tuple xs => cases q
    | none => cases q
    | bool _ => exact ⟨(fun z => nomatch z), fun xs z => nomatch z⟩
    | int _ => exact ⟨(fun z => nomatch z), fun xs z => nomatch z⟩
    | str _ => exact ⟨(fun z => nomatch z), fun xs z => nomatch z⟩
    | list _ => exact ⟨(fun z => nomatch z), fun xs z => nomatch z⟩
    | dict _ => exact ⟨(fun z => nomatch z), fun xs z => nomatch z⟩
theorem sortD_eq (ds : List D) : ds.mergeSort (PySem.W.dataLe false id) = sortD ds := by
  rw [PySem.W.dataLe_eq]
  rfl
theorem ok_sorted (hc : X.calm = true) (hu : X.A.units + 100 < cLine) : BiOk X W (.builtin "sorted") .sorted := ok1 rfl fun d z v M A σ ρ H Q e rel h acc => by
  unfold fSorted at e
  obtain ⟨ds, e1, e3⟩ := Option.bind_eq_some_iff.mp e
  obtain ⟨ys, e2, e4⟩ := Option.bind_eq_some_iff.mp e3
  cases e4
  unfold sorts at e2
  split at e2 <;> cases e2
  rename_i hz
  obtain ⟨z1, z2, z3, z4⟩ := hz
  have z4 : ∀ d ∈ ds, SeqAt.shaped d = true := fun d hd => List.all_eq_true.mp z4 d hd
  intro pins s σ' us I rv
  obtain ⟨u, rfl, r1⟩ := vals1 rv
  have hdep : ∀ b, b ∈ ds → X.A.units + 2 + (id b).depth < cLine := fun b hb => by
    have := SeqAt.depth_of_shaped (z4 b hb)
    show X.A.units + 2 + b.depth < cLine
    omega
  have fin : ∀ (its out : List Value), out.length = ds.length → PySem.W.EachIs (fun u d => ∃ v, RelV v u ∧ Rp X.K (gm X) (hid M H) v d) out (ds.mergeSort (PySem.W.dataLe false id)) →
      EP X pins σ' Q (.ref (s.heap.objs.size + 1)) { s with heap := PyProof.Rows.sortedAll s.heap its (List.toArray out) } := fun its out ho he => by
    rw [sortD_eq] at he
    obtain ⟨vs, k1, k2⟩ := EachIs.vals he
    obtain ⟨ep, he'⟩ := PyProof.Rows.sortedAll_at s.heap its out.toArray
    have hlen : vs.length ≤ sizeLine := by
      rw [k1.length, ho]
      exact bigL z3
    have hf : H (s.heap.objs.size + 1) = none := I.hok.fresh (Nat.le_succ _)
    exact ⟨.ref _, upd H (s.heap.objs.size + 1) (.lst vs), I.laid (t' := s.toks) (fun _ _ => PyProof.Rows.sortedAll_old) (Nat.le_succ _) ⟨hlen, out, ep, k1, he'⟩, rfl, acc.newL rel k2 hf⟩
  by_cases hdd : ∃ kvs, d = .dict kvs
  · obtain ⟨kvs, rfl⟩ := hdd
    have e1' : (if dkeys kvs = true then some (kvs.map (·.1)) else none) = some ds := e1
    have hdk : dkeys kvs = true := by
      by_cases hk : dkeys kvs = true
      · exact hk
      · rw [if_neg hk] at e1'
        cases e1'
    rw [if_pos hdk] at e1'
    cases e1'
    obtain ⟨p, rfl, hD⟩ := h.dct hdk
    cases r1
    obtain ⟨o, es, ep, ks, vs, ho, hx, hdt, hm, hsz, hszl, rk, _, hvk, _⟩ := dict_parts I hD
    have hvk' : ∀ acc : Array Value, ItemsOf (fun i v => ∃ en : DictEntry, es[i]? = some en ∧ v = en.key) acc es.size → Vals ks acc.toList := fun acc hacc => hvk acc.toList (by rw [Array.length_toList]; exact hacc.1) fun j u hj => hacc.2 j u (by rw [← Array.getElem?_toList]; exact hj)
    refine sorted_collect (s := s) (r := p) (bs := kvs.map (·.1)) (R := fun u d => ∃ v, RelV v u ∧ Rp X.K (gm X) (hid M H) v d) (Cc := fun us => Vals ks us)
      (fun E' R' hR => PySem.W.kdu_collect (A := X.A.in1) (kdl_raw hm hx hdt) (I.ok.hd hc) ho hsz fun h' tk acc hk' hacc => hR h' tk acc.toList hk' (hvk' acc hacc))
      (fun us r' => rk.each r') (fun us r' => (rk.ex hid_le).eachR I r' z4) (alikeAll_ok z1) (sortable_ok z2) (bigL z3) hdep fun h' tk out ep' h'' k1 k2 hat hol he => ?_
    rw [sortD_eq] at he
    obtain ⟨vs', k3, k4⟩ := EachIs.vals he
    have hlen : vs'.length ≤ sizeLine := by
      rw [k3.length, hol]
      exact bigL z3
    have I1 : Inv X pins σ' H { s with heap := h', toks := tk } := I.kept (t' := tk) k1
    have hf : H h'.objs.size = none := I1.hok.fresh (Nat.le_refl _)
    exact ⟨.ref _, upd H h'.objs.size (.lst vs'), I1.laid (t' := tk) k2 (Nat.le_refl _) ⟨hlen, out, ep', k3, hat⟩, rfl, acc.newL rel k4 hf⟩
  · have e1' : seqOf d = some ds := by
      cases d with
      | dict kvs => exact absurd ⟨_, rfl⟩ hdd
      | none => exact e1
      | bool _ => exact e1
      | int _ => exact e1
      | str _ => exact e1
      | list _ => exact e1
      | tuple _ => exact e1
    obtain ⟨p, xs, rfl, hq, h1⟩ := h.seq e1'
    cases r1
    rcases hq with hq | hq
    · obtain ⟨its, r', pl, hz⟩ := I.list hq
      exact PySem.W.sorted_data pl.isList (h1.each r') ((h1.ex hid_le).eachR I r' z4) (alikeAll_ok z1) (sortable_ok z2) (bigL z3) hdep fun out ho he => fin its out ho he
    · obtain ⟨its, r', pl, hz⟩ := I.tuple hq
      exact sorted_dataT pl (h1.each r') ((h1.ex hid_le).eachR I r' z4) (alikeAll_ok z1) (sortable_ok z2) (bigL z3) hdep fun out ho he => fin its out ho he
end
end Iv
set_option maxRecDepth 100000
set_option maxHeartbeats 4000000
/-! Iv6: len(set(..)), isinstance, methods, own defs. -/
namespace Iv
open PySem PySem.Spec PyProof.Rows L2 PySem.SeqAt

theorem mem_ddp {k : Int} : ∀ {ns : List Int}, k ∈ ddp ns ↔ k ∈ ns
  | [] => by simp [ddp]
  | x :: r => by
    unfold ddp
    by_cases h : x ∈ r
    · rw [if_pos h, mem_ddp, List.mem_cons]
      exact ⟨.inr, fun z => z.elim (fun z => z ▸ h) id⟩
    · rw [if_neg h, List.mem_cons, List.mem_cons, mem_ddp]
theorem nodup_ddp : ∀ ns : List Int, (ddp ns).Nodup
  | [] => List.nodup_nil
  | x :: r => by
    unfold ddp
    by_cases h : x ∈ r
    · rw [if_pos h]
      exact nodup_ddp r
    · rw [if_neg h]
      exact List.nodup_cons.mpr ⟨fun z => h (mem_ddp.mp z), nodup_ddp r⟩
theorem ddp_nodup : ∀ {ns : List Int}, ns.Nodup → ddp ns = ns
  | [], _ => rfl
  | x :: r, h => by
    unfold ddp
    rw [if_neg (List.nodup_cons.mp h).1, ddp_nodup (List.nodup_cons.mp h).2]
theorem card_eq {l ns : List Int} (h : l.Nodup) (m : ∀ k, k ∈ l ↔ k ∈ ns) : l.length = (ddp ns).length := by
  refine List.Perm.length_eq ((List.perm_ext_iff_of_nodup h (nodup_ddp ns)).mpr fun k => ?_)
  rw [m k, mem_ddp]
section
variable {X : Cx} {W : Wish} {M A M1 A1 : Set} {σ : St} {H H1 : Hp} {cx : Ctx} {ρ : Env}

theorem firstMet_mem (ns : List Int) : ∀ i, i ≤ ns.length → (PyProof.Rows.firstMet (fun i => ns.getD i 0) i).Nodup ∧ ∀ k, k ∈ PyProof.Rows.firstMet (fun i => ns.getD i 0) i ↔ k ∈ ns.take i
  | 0, _ => ⟨by rw [PyProof.Rows.firstMet_zero]; exact List.nodup_nil, fun k => by rw [PyProof.Rows.firstMet_zero, List.take_zero]⟩
  | i + 1, hi => by
    obtain ⟨h1, h2⟩ := firstMet_mem ns i (Nat.le_of_succ_le hi)
    have hlt : i < ns.length := hi
    have e1 : ns.getD i 0 = ns[i] := by
      rw [List.getD_eq_getElem?_getD, List.getElem?_eq_getElem hlt] <;> rfl
    have e2 : ns.take (i + 1) = ns.take i ++ [ns[i]] := by
      rw [List.take_add_one, List.getElem?_eq_getElem hlt] <;> rfl
    rw [PyProof.Rows.firstMet_succ, e2]
    simp only [e1]
    unfold PyProof.Rows.step_dedup
    by_cases hm : (PyProof.Rows.firstMet (fun i => ns.getD i 0) i).any (· == ns[i]) = true
    · rw [if_pos hm]
      refine ⟨h1, fun k => ?_⟩
      obtain ⟨y, hy, ey⟩ := List.any_eq_true.mp hm
      have ey2 : y = ns[i] := eq_of_beq ey
      rw [h2 k, List.mem_append, List.mem_singleton]
      refine ⟨.inl, fun z => z.elim id fun z => ?_⟩
      rw [z, ← ey2]
      exact (h2 y).mp hy
    · rw [if_neg hm]
      have hn : ns[i] ∉ PyProof.Rows.firstMet (fun i => ns.getD i 0) i := fun z => hm (List.any_eq_true.mpr ⟨_, z, beq_self_eq_true _⟩)
      refine ⟨List.nodup_append.mpr ⟨h1, by simp, fun a ha b hb => ?_⟩, fun k => ?_⟩
      · rw [List.mem_singleton] at hb
        subst hb
        exact fun z => hn (z ▸ ha)
      · rw [List.mem_append, List.mem_append, h2 k]
/-- len(set(e)) -/
theorem snd_lenset {a : Expr} {c : C} {p p2 q pos : Pos} (hc : X.calm = true) (hg : Gl X "len") (hm : X.mg "len" = none) (hg2 : Gl X "set") (hm2 : X.mg "set" = none) (ns : ∀ b p, a ≠ .Starred b p) (ha : SndE cx X W a c) :
    SndE cx X W (.Call (.Name "len" p) [.Call (.Name "set" p2) [a] [] q] [] pos) (.bi .lenset (.cons c .nil)) := by
  intro ρ M A σ H Q rel acc pins s I
  refine Call_ (ld_blt I hg hm boot_len ?_)
  refine PyProof.Rows.callWith_builtin1 (PyProof.Rows.args_cons ?_ rfl) rfl rfl
  refine Call_ (ld_blt I hg2 hm2 boot_set ?_)
  have acc : AccE X W M A σ H (((ev cx c ρ).bd fun x ρ1 => (R.ok (Rv.l [], ρ1)).bd fun y ρ2 => got (listOf y) fun ys => (R.ok (Rv.l (x :: ys), ρ2) : R (Rv × Env))).bd fun x ρ1 => got (listOf x) fun rs => got (reads ρ1 rs) fun ds => got (builtin .lenset ds) fun z => .ok (z, ρ1)) Q := acc
  have acc : AccE X W M A σ H ((ev cx c ρ).bd fun x ρ1 => got (reads ρ1 [x]) fun ds => got (builtin .lenset ds) fun z => .ok (z, ρ1)) Q := by
    cases g : ev cx c ρ with
    | no => rw [g] at acc; exact acc
    | er x => rw [g] at acc; exact acc
    | ok p => rw [g] at acc; exact acc
  have core : SE X a σ H fun x H1 => ∃ (l : Addr) (ns : List Int) (xs : List V), x = .ref l ∧ xs = ns.map V.int ∧ (SqL X.K H1 l xs ∨ SqT X.K H1 l xs) ∧ ns.length ≤ 4000 ∧ Q (.int ((ddp ns).length : Nat)) H1 := by
    refine ha.bind rel acc fun x ρ1 v H1 M1 A1 s1 r1 h1 acc1 => ?_
    obtain ⟨ds, e1, acc1⟩ := acc1.of
    simp only [reads] at e1
    obtain ⟨d, ed, e2⟩ := Option.bind_eq_some_iff.mp e1
    cases e2
    obtain ⟨z, ez, acc1⟩ := acc1.of
    have ez : fLenset d = some z := ez
    unfold fLenset at ez
    obtain ⟨ds, e3, e4⟩ := Option.bind_eq_some_iff.mp ez
    obtain ⟨ms, e5, e6⟩ := Option.bind_eq_some_iff.mp e4
    have hz : ms.length ≤ 4000 := by
      by_cases hz : ms.length ≤ 4000
      · exact hz
      · rw [if_neg hz] at e6
        cases e6
    rw [if_pos hz] at e6
    cases e6
    obtain ⟨l, xs, rfl, hq, h2⟩ := (read_ok r1 h1 ed).seq e3
    rw [intsD_eq e5] at h2
    exact ⟨l, ms, xs, rfl, h2.ints, hq, hz, acc1.d r1 (.int _)⟩
  have na : starEach [a] X.env = (false, eval a X.env) :: starEach [] X.env := starEach_cons ns
  refine PyProof.Rows.callWith_type1 (PyProof.Rows.args_cons (thn (core pins s I) fun v s1 ⟨x, H1, I1, r1, q1⟩ => PyProof.Rows.args_nil ?_) na) na rfl
  obtain ⟨l, ms, xs, rfl, rfl, hq, hl, q1⟩ := q1
  cases r1
  rcases hq with hq | hq
  · obtain ⟨its, r, pl, hz⟩ := I1.list hq
    have hlen : its.toArray.size = ms.length := by rw [List.size_toArray, ← r.length, List.length_map]
    refine call_set_list (I1.ok.hd hc) pl.isList (by simpa using intsAre_of r) (by rw [hlen]; unfold scanBound; omega) fun h' tk hS hk => ?_
    refine PyProof.Rows.args_nil ?_
    rw [hlen] at hS
    obtain ⟨f1, f2⟩ := firstMet_mem ms ms.length (Nat.le_refl _)
    rw [List.take_length] at f2
    rw [card_eq f1 f2] at hS
    obtain ⟨o, es, ep, t, ho, hex, hd, _, _, _, hf, hn⟩ := hS
    have hle : (ddp ms).length ≤ ms.length := by
      rw [← card_eq f1 f2]
      exact PyProof.Rows.firstMet_length_le _ _
    have I2 : Inv X pins σ H1 { s1 with heap := h', toks := tk } := I1.kept fun b o e => hk b o (Heap.lt_size e) e
    exact call_len_set ho hex hd hf (by rw [hn] <;> omega) ⟨.int (ddp ms).length, H1, I2.tok _, ⟨_, by rw [hn]⟩, q1⟩
  · obtain ⟨its, r, pl, hz⟩ := I1.tuple hq
    refine call_set_tupI ms (I1.ok.hd hc) pl (by simpa using intsAre_of r) (by unfold scanBound; omega) fun h' tk c hS hcl hk => ?_
    refine PyProof.Rows.args_nil ?_
    obtain ⟨o, es, ep, t, ho, hex, hd, hgood, hnd, hmem, hsz, hf, hn, _⟩ := hS
    have hce : es.size = (ddp ms).length := by
      rw [← card_eq hnd fun k => (hmem k).symm.trans (by simp), List.length_map, Array.length_toList]
    have I2 : Inv X pins σ H1 { s1 with heap := h', toks := tk } := I1.kept hk
    exact call_len_set ho hex hd hf (by omega) ⟨.int (ddp ms).length, H1, I2.tok _, ⟨_, by rw [hce]⟩, q1⟩

/-! ### isinstance -/
theorem tyD_ok {K : PySem.W.Frag} {mg : MG} {d : D} {t : String} {v : V} (e : tyD d = some t) (h : RdOk K mg M H v d) : TyX K H v (.type t) := by
  cases d with
  | none => cases e; rw [h.non]; exact .base .non
  | bool b => cases e; rw [h.bl]; exact .base (.bl _)
  | int b => cases e; rw [h.int]; exact .base (.int _)
  | str b => cases e; rw [h.str]; exact .base (.str _)
  | list ds =>
    cases e
    obtain ⟨p, xs, rfl, hp, h1⟩ := h.lst
    exact .base (.lst hp)
  | tuple ds =>
    cases e
    obtain ⟨p, xs, o, rfl, hp, d1, h1⟩ := h.tup
    exact .fTuple hp
  | dict _ => cases e
theorem kitB_ok : ∀ t ∈ ["NoneType", "bool", "int", "str", "list", "tuple"], ∀ T ∈ ["int", "bool", "tuple", "str", "list"], kitB t T = some (t == T || (T == "int" && t == "bool")) := by decide +kernel
theorem tyD_mem {d : D} {t : String} (e : tyD d = some t) : t ∈ ["NoneType", "bool", "int", "str", "list", "tuple"] := by
  cases d <;> cases e <;> decide
/-- isinstance(e, T), T a built-in type -/
theorem snd_isi {a : Expr} {c : C} {T : String} {x : Str} {b : Bi} {p p2 pos : Pos} (hT : T ∈ ["int", "bool", "tuple", "str", "list"]) (hb : builtin b = un1 (fIs T)) (hg : Gl X "isinstance") (hm : X.mg "isinstance" = none) (hv : bootBuiltins "isinstance" = some (.builtin "isinstance"))
    (hg2 : Gl X x) (hm2 : X.mg x = none) (hv2 : bootBuiltins x = some (.type T)) (hn2 : x ≠ "__name__") (hd2 : (x == ("__debug__" : Str)) = false) (ns : ∀ b p, a ≠ .Starred b p) (ha : SndE cx X W a c) :
    SndE cx X W (.Call (.Name "isinstance" p) [a, .Name x p2] [] pos) (.bi b (.cons c .nil)) := by
  intro ρ M A σ H Q rel acc
  have acc : AccE X W M A σ H (((ev cx c ρ).bd fun x ρ1 => (R.ok (Rv.l [], ρ1)).bd fun y ρ2 => got (listOf y) fun ys => (R.ok (Rv.l (x :: ys), ρ2) : R (Rv × Env))).bd fun x ρ1 => got (listOf x) fun rs => got (reads ρ1 rs) fun ds => got (builtin b ds) fun z => .ok (z, ρ1)) Q := acc
  have acc : AccE X W M A σ H ((ev cx c ρ).bd fun x ρ1 => got (reads ρ1 [x]) fun ds => got (builtin b ds) fun z => .ok (z, ρ1)) Q := by
    cases g : ev cx c ρ with
    | no => rw [g] at acc; exact acc
    | er x => rw [g] at acc; exact acc
    | ok p => rw [g] at acc; exact acc
  refine se_of (pe_callB call_isi hg hm hv (pa_cons pe_se (pa_cons (pe_bltn (v := .ty T) hg2 hm2 hv2 rfl hn2 hd2) pa_nil) (starEach_cons ns)) (by decide) (by decide) (starEach_cons ns) rfl) (ha.bind rel acc fun x ρ1 v H1 M1 A1 s1 r1 h1 acc1 => ?_)
  obtain ⟨ds, e1, acc1⟩ := acc1.of
  simp only [reads] at e1
  obtain ⟨d, ed, e2⟩ := Option.bind_eq_some_iff.mp e1
  cases e2
  obtain ⟨z, ez, acc1⟩ := acc1.of
  rw [hb] at ez
  have ez2 : fIs T d = some z := ez
  unfold fIs at ez2
  obtain ⟨t, e3, e4⟩ := Option.bind_eq_some_iff.mp ez2
  cases e4
  exact ⟨v, .ty T, .type t, .type T, _, rfl, .ty T, tyD_ok e3 (read_ok r1 h1 ed), kit_ty (kitB_ok t (tyD_mem e3) T hT), acc1.d r1 (.bl _)⟩

/-! ### methods of built-in types -/
def TyS (X : Cx) (T : String) (x : V) (H : Hp) : Prop := ∀ pins s σ v, Inv X pins σ H s → RelV x v → s.TypeIs v T ∧ ∀ a, v = .ref a → ∃ ob, s.heap.get? a = some ob ∧ ob.dict = none
theorem tyS_list {p : Addr} {xs : List V} (h : SqL X.K H p xs) : TyS X "list" (.ref p) H := fun pins s σ v I r => tyV_is I r (.inl ⟨rfl, xs, h⟩)
theorem tyS_tup {p : Addr} {xs : List V} {o : Obj} (h : H p = some (.frz o (.tup xs))) (hd : o.dict = none) : TyS X "tuple" (.ref p) H := by
  intro pins s σ v I r
  cases r
  obtain ⟨e, hz, its, rv, o', h1, h2, h3⟩ := (show ObjOk X.prog X.w H s.heap p (.frz o (.tup xs)) from I.hok p _ h)
  refine ⟨⟨o', h1, h2⟩, fun a q => ?_⟩
  cases q
  exact ⟨o, e, hd⟩
/-- o.m(e, ..), the receiver's type known when it has come -/
def tME (X : Cx) (name : Str) (to : TE) (t : TA) : TE := fun σ H Q => to σ H fun x H1 => ∃ T id, PlainAttrs T ∧ PySem.Slot T name id ∧ typeOf (.builtin id) = pure (.type "method_descriptor") ∧ TyS X T x H1 ∧
  t σ H1 fun xs H2 => ∀ pins s σ v us, Inv X pins σ H2 s → RelV x v → Vals xs us → wpAny (model X.prog X.w) X.A (call (.builtin id) (v :: us)) (EP X pins σ Q) X.xe s
theorem pe_me {o e : Expr} {es : List Expr} {to : TE} {t : TA} {name : Str} {apos cpos : Pos} (ho : PE X o to) (ha : PA X (e :: es) t)
    (hbase : attributeBase o name X.env (eval o X.env) = eval o X.env)
    (hfew : ((backTo cpos (starEach (e :: es) X.env)).all (fun x => !x.1) && (backToKw cpos (keywordEach [] X.env)).all (fun x => x.1.isSome)
      && decide ((e :: es).length + ([] : List Keyword).length + (if ([] : List Keyword).isEmpty then 0 else 1) < 30)) = true)
    (hline : (apos.endLine == cpos.line) = true) (hs : starEach (e :: es) X.env = (false, eval e X.env) :: starEach es X.env) (hplain : (backTo cpos (starEach es X.env)).any (·.1) = false) :
    PE X (.Call (.Attribute o name apos) (e :: es) [] cpos) (tME X name to t) := by
  refine ⟨fun pins s σ H Q I h => ?_⟩
  refine wpAny_Call_method_late hbase hfew hline rfl (thn (ho.run pins s σ H _ I h) fun v s1 ⟨x, H1, I1, r1, q⟩ => ?_)
  obtain ⟨T, id, pa, slot, hty, ty, q1⟩ := q
  obtain ⟨h1, h2⟩ := ty pins s1 σ v I1 r1
  refine ⟨T, id, pa, slot, hty, h1, h2, ?_⟩
  have hA := ha.run cpos pins s1 σ H1 _ I1 q1
  rw [hs] at hA ⊢
  refine Calls.callWith_builtin (by show (false || (backTo cpos (starEach es X.env)).any (·.1)) = false; rw [hplain] <;> rfl) (Calls.evalArgs_plain ?_)
  exact thn hA fun us s2 ⟨vs, H2, I2, r2, q2⟩ => q2 pins s2 σ v us I2 r1 r2
theorem few1 {e : Expr} {cpos : Pos} {env : PySem.Env} (ns : ∀ b p, e ≠ .Starred b p) : ((backTo cpos (starEach [e] env)).all (fun x => !x.1) && (backToKw cpos (keywordEach [] env)).all (fun x => x.1.isSome)
      && decide (([e] : List Expr).length + ([] : List Keyword).length + (if ([] : List Keyword).isEmpty then 0 else 1) < 30)) = true := by
  rw [starEach_cons ns]
  rfl
theorem strsD_eq : ∀ {ds : List D} {ns : List Str}, strsD ds = some ns → ds = ns.map .str
  | [], _, h => by cases h; rfl
  | .str i :: r, _, h => by
    simp only [strsD, Option.map_eq_some_iff] at h
    obtain ⟨ns, h, rfl⟩ := h
    rw [strsD_eq h]
    rfl
  | .none :: _, _, h | .bool _ :: _, _, h | .int _ :: _, _, h | .list _ :: _, _, h | .tuple _ :: _, _, h | .dict _ :: _, _, h => by simp [strsD] at h
theorem RpA.strs {K : PySem.W.Frag} {mg : MG} : ∀ {ns : List Str} {vs : List V}, RpA K mg H vs (ns.map .str) → vs = ns.map V.str
  | [], _, h => by cases h; rfl
  | n :: ns, _, h => by
    cases h with
    | cons h r => cases h; rw [RpA.strs r]; rfl
theorem strsAre_of2 : ∀ {ys : List Str} {us : List Value}, Vals (ys.map V.str) us → StrsAre us ys
  | [], _, .nil => .nil
  | y :: ys, _, .cons ⟨t, e⟩ r => by
    subst e
    exact .cons y t (strsAre_of2 r)
/-- xs.index(k): the kind is known when the receiver has come -/
theorem index_me {d0 : D} {x : V} {M0 : Set} (h0 : meOk .index d0 = true) (hx0 : RdOk X.K (gm X) M0 H1 x d0) : ∃ T id, PlainAttrs T ∧ PySem.Slot T "index" id ∧ typeOf (.builtin id) = pure (.type "method_descriptor") ∧ TyS X T x H1 ∧
    ∀ (M A : Set) (H : Hp) (σ : St) (ρ : Env) (d k : D) (z : Rv) (y : V) (Q : VK), kind d = kind d0 → method .index d [k] = some z → Rel X.K (gm X) M A ρ σ H → RdOk X.K (gm X) M H x d → RdOk X.K (gm X) M H y k → AccE X W M A σ H (.ok (z, ρ)) Q →
      ∀ pins s σ v us, Inv X pins σ H s → RelV x v → Vals [y] us → wpAny (model X.prog X.w) X.A (call (.builtin id) (v :: us)) (EP X pins σ Q) X.xe s := by
  have parts : ∀ {d k : D} {z : Rv}, method .index d [k] = some z → (∃ ds ns j, seqOf d = some ds ∧ ds = (ns : List Int).map .int ∧ k = .int j ∧ j ∈ ns ∧ z = .d (.int (ns.idxOf j : Nat))) ∨ (∃ ds ns j, seqOf d = some ds ∧ ds = (ns : List Str).map .str ∧ k = .str j ∧ j ∈ ns ∧ z = .d (.int (ns.idxOf j : Nat))) := by
    intro d k z e
    cases k with
    | int k =>
      simp only [method] at e
      obtain ⟨ds, e1, e2⟩ := Option.bind_eq_some_iff.mp e
      obtain ⟨ns, e3, e4⟩ := Option.bind_eq_some_iff.mp e2
      have hk : k ∈ ns := by
        by_cases hk : k ∈ ns
        · exact hk
        · rw [if_neg hk] at e4; cases e4
      rw [if_pos hk] at e4
      cases e4
      exact .inl ⟨ds, ns, k, e1, intsD_eq e3, rfl, hk, rfl⟩
    | str k =>
      simp only [method] at e
      obtain ⟨ds, e1, e2⟩ := Option.bind_eq_some_iff.mp e
      obtain ⟨ns, e3, e4⟩ := Option.bind_eq_some_iff.mp e2
      have hk : k ∈ ns := by
        by_cases hk : k ∈ ns
        · exact hk
        · rw [if_neg hk] at e4; cases e4
      rw [if_pos hk] at e4
      cases e4
      exact .inr ⟨ds, ns, k, e1, strsD_eq e3, rfl, hk, rfl⟩
    | none => simp [method] at e
    | bool _ => simp [method] at e
    | list _ => simp [method] at e
    | tuple _ => simp [method] at e
    | dict _ => simp [method] at e
  cases d0 with
  | list d0 =>
    obtain ⟨p, xs, rfl, hp, _⟩ := hx0.lst
    refine ⟨"list", "list.index", PySem.F.plainAttrs_list, PySem.F.slot_list_index, PySem.F.type_list_index, tyS_list (SqL.of hp), fun M A H σ0 ρ d k z y Q hd e rel hx hy acc pins s σ v us I rx ry => ?_⟩
    cases rx
    rcases parts e with ⟨ds, ns, j, e1, rfl, rfl, hk, rfl⟩ | ⟨ds, ns, j, e1, rfl, rfl, hk, rfl⟩
    · cases hy.int
      cases d <;> cases e1
      · obtain ⟨p, xs, ep, hp, h1⟩ := hx.lst
        cases ep
        rw [h1.ints] at hp
        obtain ⟨u, rfl, t, rfl⟩ := ry.one
        obtain ⟨its, r, pl, hz⟩ := I.list (SqL.of hp)
        rw [List.length_map] at hz
        exact list_index_ints pl.isList (intsAre_of r) hz hk ⟨.int _, H, I.tok _, ⟨_, rfl⟩, acc.d rel (.int _)⟩
      · cases hd
    · cases hy.str
      cases d <;> cases e1
      · obtain ⟨p, xs, ep, hp, h1⟩ := hx.lst
        cases ep
        rw [h1.strs] at hp
        obtain ⟨u, rfl, t, rfl⟩ := ry.one
        obtain ⟨its, r, pl, hz⟩ := I.list (SqL.of hp)
        rw [List.length_map] at hz
        exact list_index_strs pl.isList (strsAre_of2 r) hz hk ⟨.int _, H, I.tok _, ⟨_, rfl⟩, acc.d rel (.int _)⟩
      · cases hd
  | tuple d0 =>
    obtain ⟨p, xs, o, rfl, hp, hd1, _⟩ := hx0.tup
    refine ⟨"tuple", "tuple.index", PySem.F.plainAttrs_tuple, PySem.F.slot_tuple_index, PySem.F.type_tuple_index, tyS_tup hp hd1, fun M A H σ0 ρ d k z y Q hd e rel hx hy acc pins s σ v us I rx ry => ?_⟩
    cases rx
    rcases parts e with ⟨ds, ns, j, e1, rfl, rfl, hk, rfl⟩ | ⟨ds, ns, j, e1, rfl, rfl, hk, rfl⟩
    · cases hy.int
      cases d <;> cases e1
      · cases hd
      · obtain ⟨p, xs, o, ep, hp, d1, h1⟩ := hx.tup
        cases ep
        rw [h1.ints] at hp
        obtain ⟨u, rfl, t, rfl⟩ := ry.one
        obtain ⟨its, r, pl, hz⟩ := I.tuple (.inl (.inr ⟨_, hp⟩))
        exact tuple_index_ints pl (intsAre_of r) hk ⟨.int _, H, I.tok _, ⟨_, rfl⟩, acc.d rel (.int _)⟩
    · cases hy.str
      cases d <;> cases e1
      · cases hd
      · obtain ⟨p, xs, o, ep, hp, d1, h1⟩ := hx.tup
        cases ep
        rw [h1.strs] at hp
        obtain ⟨u, rfl, t, rfl⟩ := ry.one
        obtain ⟨its, r, pl, hz⟩ := I.tuple (.inl (.inr ⟨_, hp⟩))
        exact tuple_index_strs pl (strsAre_of2 r) hk ⟨.int _, H, I.tok _, ⟨_, rfl⟩, acc.d rel (.int _)⟩
  | none => cases h0
  | bool _ => cases h0
  | int _ => cases h0
  | str _ => cases h0
  | dict _ => cases h0
end
end Iv
set_option maxRecDepth 100000
set_option maxHeartbeats 4000000
/-! Iv7: method calls, pop, calls of own defs. -/
namespace Iv
open PySem PySem.Spec PyProof.Rows L2
section
variable {X : Cx} {W : Wish} {M A M1 A1 : Set} {σ : St} {H H1 : Hp} {cx : Ctx} {ρ : Env}

/-- one argument in a list -/
theorem acc_one {c : C} {k : Rv → Env → R (Rv × Env)} {Q : VK} (acc : AccE X W M A σ H ((ev cx (.cons c .nil) ρ).bd k) Q) : AccE X W M A σ H ((ev cx c ρ).bd fun x ρ1 => k (.l [x]) ρ1) Q := by
  have acc : AccE X W M A σ H (((ev cx c ρ).bd fun x ρ1 => (R.ok (Rv.l [], ρ1)).bd fun y ρ2 => got (listOf y) fun ys => (R.ok (Rv.l (x :: ys), ρ2) : R (Rv × Env))).bd k) Q := acc
  cases g : ev cx c ρ with
  | no => rw [g] at acc; exact acc
  | er x => rw [g] at acc; exact acc
  | ok p => rw [g] at acc; exact acc
theorem snd_index {o e : Expr} {co ce : C} {apos cpos : Pos} (hbase : ∀ env, attributeBase o "index" env (eval o env) = eval o env) (hline : (apos.endLine == cpos.line) = true) (ns : ∀ b p, e ≠ .Starred b p) (ho : SndE cx X W o co) (he : SndE cx X W e ce) :
    SndE cx X W (.Call (.Attribute o "index" apos) [e] [] cpos) (.me .index co (.cons ce .nil)) := by
  intro ρ M A σ H Q rel acc
  refine se_of (pe_me pe_se (pa_cons pe_se pa_nil (starEach_cons ns)) (hbase X.env) (few1 ns) hline (starEach_cons ns) rfl) (ho.bind rel acc fun x ρ1 v H1 M1 A1 s1 r1 h1 acc1 => ?_)
  obtain ⟨d0, e0, acc1⟩ := acc1.of
  by_cases hm : meOk .index d0 = true
  · rw [if_pos hm] at acc1
    obtain ⟨T, id, q1, q2, q3, q4, q5⟩ := index_me (W := W) hm (read_ok r1 h1 e0)
    refine ⟨T, id, q1, q2, q3, q4, he.bind r1 (acc_one acc1) fun y ρ2 u H2 M2 A2 s2 r2 h2 acc2 => ?_⟩
    obtain ⟨rs, e1, acc2⟩ := acc2.of
    cases e1
    obtain ⟨p, e2, acc2⟩ := acc2.of
    obtain ⟨M3, A3, s3, r3, hp⟩ := escs_ok (ds := p.1) (ρ1 := p.2) r2 (.cons h2 .nil) e2
    obtain ⟨d, ed, acc2⟩ := acc2.of
    by_cases hk : kind d = kind d0
    · rw [if_pos hk] at acc2
      obtain ⟨z, ez, acc2⟩ := acc2.of
      obtain ⟨k, hpk, hk1⟩ : ∃ k, p.1 = [k] ∧ Rp X.K (gm X) (hid M3 H2) u k := by
        generalize p.1 = l at hp
        cases hp with
        | cons h hr => cases hr; exact ⟨_, rfl, h⟩
      rw [hpk] at ez
      exact q5 M3 A3 H2 σ p.2 d k z u Q hk ez r3 (read_ok r3 ((h1.step s2 r1.am).step s3 r2.am) ed) (.inl hk1) (acc2.step s3)
    · rw [if_neg hk] at acc2
      exact acc2.elim
  · rw [if_neg hm] at acc1
    exact acc1.elim

theorem few2 {e e2 : Expr} {cpos : Pos} {env : PySem.Env} (ns : ∀ b p, e ≠ .Starred b p) (ns2 : ∀ b p, e2 ≠ .Starred b p) : ((backTo cpos (starEach [e, e2] env)).all (fun x => !x.1) && (backToKw cpos (keywordEach [] env)).all (fun x => x.1.isSome)
      && decide (([e, e2] : List Expr).length + ([] : List Keyword).length + (if ([] : List Keyword).isEmpty then 0 else 1) < 30)) = true := by
  rw [starEach_cons ns, starEach_cons ns2]
  rfl
/-- d.get(k), d.get(k, x) -/
theorem snd_get (hu : X.A.units + 65 < cLine) {m : Me} (hm : m = .get1 ∨ m = .get2) {o e : Expr} {es : List Expr} {co ces : C} {apos cpos : Pos} (hbase : ∀ env, attributeBase o "get" env (eval o env) = eval o env) (hline : (apos.endLine == cpos.line) = true)
    (hfew : ∀ env, ((backTo cpos (starEach (e :: es) env)).all (fun x => !x.1) && (backToKw cpos (keywordEach [] env)).all (fun x => x.1.isSome)
      && decide ((e :: es).length + ([] : List Keyword).length + (if ([] : List Keyword).isEmpty then 0 else 1) < 30)) = true) (ns : ∀ b p, e ≠ .Starred b p) (hplain : ∀ env, (backTo cpos (starEach es env)).any (·.1) = false)
    (ho : SndE cx X W o co) (he : SndA cx X W (e :: es) ces) : SndE cx X W (.Call (.Attribute o "get" apos) (e :: es) [] cpos) (.me m co ces) := by
  intro ρ M A σ H Q rel acc
  refine se_of (pe_me pe_se pa_sa (hbase X.env) (hfew X.env) hline (starEach_cons ns) (hplain X.env)) (ho.bind rel acc fun x ρ1 v H1 M1 A1 s1 r1 h1 acc1 => ?_)
  obtain ⟨d0, e0, acc1⟩ := acc1.of
  by_cases hmo : meOk m d0 = true
  · rw [if_pos hmo] at acc1
    have hd0 : ∃ kvs, d0 = .dict kvs ∧ dkeys kvs = true := by
      rcases hm with rfl | rfl <;> cases d0 <;> first | exact ⟨_, rfl, hmo⟩ | cases hmo
    obtain ⟨kv0, rfl, hk0⟩ := hd0
    obtain ⟨p, rfl, hD⟩ := (read_ok r1 h1 e0).dct hk0
    refine ⟨"dict", "dict.get", PySem.F.plainAttrs_dict, PySem.F.slot_dict_get, PySem.F.type_dict_get, ?_, he.bind r1 acc1 fun rs ρ2 us H2 M2 A2 s2 r2 h2 acc2 => ?_⟩
    · intro pins s σ0 v I r
      cases (show v = Value.ref p from r)
      obtain ⟨q1, q2⟩ := dictTy I hD
      exact ⟨q1, fun a q => by cases q; exact q2⟩
    obtain ⟨rs', e1, acc2⟩ := acc2.of
    cases e1
    obtain ⟨pr, e2, acc2⟩ := acc2.of
    obtain ⟨M3, A3, s3, r3, hp⟩ := escs_ok (ds := pr.1) (ρ1 := pr.2) r2 h2 e2
    obtain ⟨d, ed, acc2⟩ := acc2.of
    by_cases hk : kind d = kind (.dict kv0)
    · rw [if_pos hk] at acc2
      obtain ⟨z, ez, acc2⟩ := acc2.of
      have hx := read_ok r3 ((h1.step s2 r1.am).step s3 r2.am) ed
      have hd : ∃ kvs, d = .dict kvs := by cases d <;> first | exact ⟨_, rfl⟩ | cases hk
      obtain ⟨kvs, rfl⟩ := hd
      generalize pr.1 = args at hp ez
      intro pins s σ0 v vs I rv rvs
      cases (show v = Value.ref p from rv)
      rcases hm with rfl | rfl
      · cases hp with
        | nil => cases ez
        | cons hk1 hr =>
          cases hr with
          | cons _ _ => cases ez
          | nil =>
            have ez2 : (if keyOk kvs _ = true then some (Rv.d ((dval kvs _).getD .none)) else none) = some z := ez
            split at ez2 <;> cases ez2
            rename_i hko
            obtain ⟨p', ep, hD2⟩ := hx.dct (keyOk_dkeys hko)
            cases ep
            cases rvs with
            | cons ry rr =>
              cases rr
              exact dI_get1 (units1 hu) I (dAs I hid_le hD2 hk1 hko) ry fun v' w' s' I' q1 q2 => ⟨v', H2, I', q2, (acc2.step s3).d r3 q1⟩
      · cases hp with
        | nil => cases ez
        | cons hk1 hr =>
          cases hr with
          | nil => cases ez
          | cons hx1 hr =>
            cases hr with
            | cons _ _ => cases ez
            | nil =>
              have ez2 : (if keyOk kvs _ = true then some (Rv.d ((dval kvs _).getD _)) else none) = some z := ez
              split at ez2 <;> cases ez2
              rename_i hko
              obtain ⟨p', ep, hD2⟩ := hx.dct (keyOk_dkeys hko)
              cases ep
              cases rvs with
              | cons ry rr =>
                cases rr with
                | cons rz rr =>
                  cases rr
                  exact dI_get2 (units1 hu) I (dAs I hid_le hD2 hk1 hko) ry hx1 rz fun v' w' s' I' q1 q2 => ⟨v', H2, I', q2, (acc2.step s3).d r3 q1⟩
    · rw [if_neg hk] at acc2
      exact acc2.elim
  · rw [if_neg hmo] at acc1
    exact acc1.elim

/-! ### own objects change -/
theorem Rel.put' {i : Nat} {d d' : D} {p : Addr} {H1 : Hp} (rel : Rel X.K (gm X) M A ρ σ H) (g : get ρ i = .ow d) (hp : σ[i]? = some (some (.ref p))) (ho : Own X.K (gm X) (hid M H1) H1 p d')
    (k : ∀ a o, a ≠ p → H a = some o → H1 a = some o) : Stp M A H M A H1 ∧ Rel X.K (gm X) M A (ρ.set i (.ow d')) σ H1 := by
  obtain ⟨q, q1, q2, q3⟩ := rel.ow i d g
  rw [hp] at q1
  cases q1
  have hi : i < ρ.length := get_lt g (by intro z; cases z)
  have th : ∀ a o, H a = some o → ∃ o', H1 a = some o' := fun a o h => by
    by_cases e : a = p
    · subst e
      exact ho.there
    · exact ⟨o, k a o e h⟩
  have fr : ∀ a o, ¬ A a → H a = some o → H1 a = some o := fun a o n h => k a o (fun e => n (e ▸ q2)) h
  have ex : Ex (hid M H) (hid M H1) := hid_mono (fun _ z => z) fun a o n h => fr a o (fun z => n (rel.am a z)) h
  refine ⟨⟨fun _ z => z, fun _ z _ => z, fun _ z => z, fr, th⟩, ⟨by rw [List.length_set]; exact rel.len, rel.am, fun a z => let ⟨o, ho⟩ := rel.mh a z; th a o ho, fun j e hj => ?_, fun j e hj => ?_, fun a b d1 d2 q h1 h2 h3 h4 => ?_⟩⟩
  · rw [get_set] at hj
    by_cases hij : i = j ∧ i < ρ.length
    · rw [if_pos hij] at hj
      cases hj
    · rw [if_neg hij] at hj
      obtain ⟨v, h1, h2⟩ := rel.fz j e hj
      exact ⟨v, h1, h2.ex ex⟩
  · rw [get_set] at hj
    by_cases hij : i = j ∧ i < ρ.length
    · rw [if_pos hij] at hj
      cases hj
      rw [← hij.1]
      exact ⟨p, hp, q2, ho⟩
    · rw [if_neg hij] at hj
      obtain ⟨r, r1, r2, r3⟩ := rel.ow j e hj
      refine ⟨r, r1, r2, r3.ex ex ?_⟩
      have hne : r ≠ p := fun z => hij ⟨rel.inj i j _ _ _ g hj hp (z ▸ r1), hi⟩
      obtain ⟨o, hr⟩ := r3.there
      rw [hr]
      exact k r o hne hr
  · rw [get_set] at h1 h2
    have fix : ∀ {a : Nat} {d1 : D}, (if i = a ∧ i < ρ.length then Slot.ow d' else get ρ a) = .ow d1 → ∃ d2, get ρ a = .ow d2 := fun {a d1} h => by
      by_cases ha : i = a ∧ i < ρ.length
      · exact ⟨d, ha.1 ▸ g⟩
      · rw [if_neg ha] at h
        exact ⟨_, h⟩
    obtain ⟨_, g1⟩ := fix h1
    obtain ⟨_, g2⟩ := fix h2
    exact rel.inj a b _ _ q g1 g2 h3 h4
theorem Rel.put {i : Nat} {d d' : D} {p : Addr} {H1 : Hp} (rel : Rel X.K (gm X) M A ρ σ H) (g : get ρ i = .ow d) (hp : σ[i]? = some (some (.ref p))) (ho : Own X.K (gm X) (hid M H) H1 p d')
    (k : ∀ a o, a ≠ p → H a = some o → H1 a = some o) : Stp M A H M A H1 ∧ Rel X.K (gm X) M A (ρ.set i (.ow d')) σ H1 := by
  obtain ⟨q, q1, q2, q3⟩ := rel.ow i d g
  rw [hp] at q1
  cases q1
  exact rel.put' g hp (ho.ex (hid_mono (fun _ z => z) fun a o n h => k a o (fun e => n (e ▸ rel.am _ q2)) h) rfl) k
theorem lstOf_eq {s : Slot} {xs : List D} (h : lstOf s = some xs) : s = .ow (.list xs) := by
  unfold lstOf at h
  split at h <;> cases h
  rfl
theorem owOf_eq {s : Slot} {d : D} (h : owOf s = some d) : s = .ow d := by
  unfold owOf at h
  split at h <;> cases h
  rfl
/-- xs.pop() -/
theorem snd_popl {x : Str} {i : Nat} {p apos cpos : Pos} (hN : X.N[i]? = some x) (hv : Vis X.env.scope x) (hd : (x == ("__debug__" : Str)) = false) (hcd : (x == ("__classdict__" : Str)) = false) (hline : (apos.endLine == cpos.line) = true) :
    SndE cx X W (.Call (.Attribute (.Name x p) "pop" apos) [] [] cpos) (.popl i) := by
  intro ρ M A σ H Q rel acc
  have acc : AccE X W M A σ H (got (lstOf (get ρ i)) fun xs => got xs.getLast? fun y => .ok (.d y, ρ.set i (.ow (.list xs.dropLast)))) Q := acc
  obtain ⟨xs, e1, acc⟩ := acc.of
  obtain ⟨y, e2, acc⟩ := acc.of
  have g := lstOf_eq e1
  obtain ⟨q, q1, q2, ys, q3, q4⟩ := rel.ow i _ g
  refine se_of (pe_bm0 PySem.F.plainAttrs_list PySem.F.slot_list_pop PySem.F.type_list_pop mt_pop (pe_var hN hv hd hcd) rfl hline) ?_
  have hl : ys.length = xs.length := q4.length
  have hy : xs[xs.length - 1]? = some y := by
    rw [List.getLast?_eq_getElem?] at e2
    exact e2
  obtain ⟨v, hv1, hv2⟩ := q4.get hy
  refine ⟨_, q1, .inl ⟨rfl, ys, SqL.of q3⟩, q, ys, v, rfl, rfl, q3, by rw [hl]; exact hv1, ?_⟩
  obtain ⟨s1, r1⟩ := Rel.put (H1 := upd H q (.lst ys.dropLast)) rel g q1 (d' := .list xs.dropLast) ⟨_, upd_same, q4.dropLast⟩ fun a o n h => by rw [upd_ne n]; exact h
  exact acc v _ M A s1 r1 (hv2.ex (s1.ex rel.am))
/-- xs.pop(e) -/
theorem snd_popi {x : Str} {i : Nat} {e : Expr} {c : C} {p apos cpos : Pos} (hN : X.N[i]? = some x) (hv : Vis X.env.scope x) (hd : (x == ("__debug__" : Str)) = false) (hcd : (x == ("__classdict__" : Str)) = false) (hline : (apos.endLine == cpos.line) = true)
    (ns : ∀ b p, e ≠ .Starred b p) (he : SndE cx X W e c) : SndE cx X W (.Call (.Attribute (.Name x p) "pop" apos) [e] [] cpos) (.popi i c) := by
  intro ρ M A σ H Q rel acc
  have acc : AccE X W M A σ H (got (lstOf (get ρ i)) fun _ => (ev cx c ρ).bd fun y ρ1 => got (read ρ1 y) fun d => got (intOf d) fun k => got (lstOf (get ρ1 i)) fun xs =>
      if 0 ≤ k ∧ k < 2 ^ 62 then got xs[k.toNat]? fun z => .ok (.d z, ρ1.set i (.ow (.list (xs.eraseIdx k.toNat)))) else .no) Q := acc
  obtain ⟨xs0, e1, acc⟩ := acc.of
  have g0 := lstOf_eq e1
  obtain ⟨q, q1, q2, ys0, q3, q4⟩ := rel.ow i _ g0
  refine se_of (pe_bm PySem.F.plainAttrs_list PySem.F.slot_list_pop PySem.F.type_list_pop mt_popAt (pe_var hN hv hd hcd) (pa_cons pe_se pa_nil (starEach_cons ns)) rfl (few1 ns) hline (starEach_cons ns) rfl) ?_
  refine ⟨_, q1, .inl ⟨rfl, ys0, SqL.of q3⟩, he.bind rel acc fun y ρ1 u H1 M1 A1 s1 r1 h1 acc1 => ?_⟩
  obtain ⟨d, ed, acc1⟩ := acc1.of
  obtain ⟨k, ek, acc1⟩ := acc1.of
  obtain ⟨xs, ex, acc1⟩ := acc1.of
  have g := lstOf_eq ex
  obtain ⟨q', z1, z2, ys, z3, z4⟩ := r1.ow i _ g
  rw [q1] at z1
  cases z1
  by_cases hk : 0 ≤ k ∧ k < 2 ^ 62
  · rw [if_pos hk] at acc1
    obtain ⟨z, ez, acc2⟩ := acc1.of
    have hl : ys.length = xs.length := z4.length
    obtain ⟨w, hw1, hw2⟩ := z4.get ez
    have ek' : d = .int k := by cases d <;> simp_all [intOf]
    subst ek'
    rw [(read_ok r1 h1 ed).int]
    have hlt : k.toNat < ys.length := (List.getElem?_eq_some_iff.mp hw1).1
    have hkn : (k.toNat : Int) = k := Int.toNat_of_nonneg hk.1
    have hsi : seqIndex? k ys.length = some k.toNat := by
      have hk0 : k < (ys.length : Int) := by
        rw [← hkn]
        exact_mod_cast hlt
      have h0 : ¬ k < 0 := by omega
      simp only [seqIndex?, if_neg h0]
      rw [if_pos (by simp [hk.1, hk0])]
    obtain ⟨s2, r2⟩ := Rel.put (H1 := upd H1 q (.lst (ys.eraseIdx k.toNat))) r1 g q1 (d' := .list (xs.eraseIdx k.toNat)) ⟨_, upd_same, z4.eraseIdx _⟩ fun a o n h => by rw [upd_ne n]; exact h
    refine ⟨q, ys, k, k.toNat, w, rfl, rfl, z3, by omega, by omega, hsi, hw1, ?_⟩
    exact acc2 w _ M1 A1 s2 r2 (hw2.ex (s2.ex r1.am))
  · rw [if_neg hk] at acc1
    exact acc1.elim
end
end Iv
set_option maxRecDepth 100000
set_option maxHeartbeats 4000000
/-! Iv8: calls of own defs; walks. -/
namespace Iv
open PySem PySem.Spec PyProof.Rows L2

/-! ### the promise of an own def -/
def RetOk (K : PySem.W.Frag) (mg : MG) (M : Set) (H H1 : Hp) (fr : Bool) (d : D) (v : V) : Prop := match fr with
  | false => Rp K mg (hid M H1) v d
  | true => ∃ p, v = .ref p ∧ H p = none ∧ Own K mg (hid (fun a => a = p ∨ M a) H1) H1 p d
def SpRes (K : PySem.W.Frag) (mg : MG) (M : Set) (H : Hp) (Q : VK) (E : XK) : FR → Prop
  | .ok d fr => ∀ v H1, Ex H H1 → RetOk K mg M H H1 fr d v → Q v H1
  | .er x => ∀ a H1, mg x = some (.ref a) → Ex H H1 → E (.ref a) none H1
  | _ => False
def SpIo (K : PySem.W.Frag) (mg : MG) (M : Set) (p : Addr) (H : Hp) (Q : VK) : FR → Prop
  | .io d fr b => ∀ v H1, (∀ a o, a ≠ p → H a = some o → H1 a = some o) → Own K mg (hid (fun a => (fr = true ∧ v = .ref a) ∨ M a) H1) H1 p b → RetOk K mg M H H1 fr d v → Q v H1
  | _ => False
def spF (K : PySem.W.Frag) (mg : MG) (fi : FI) : Sp := fun vs H Q E => vs.length = fi.n ∧ ∃ M : Set, (∀ a, M a → ∃ o, H a = some o) ∧ match fi.io with
  | false => ∃ ds, RpA K mg (hid M H) vs ds ∧ SpRes K mg M H Q E (fi.sem ds)
  | true => ∃ p ws b ds, vs = .ref p :: ws ∧ M p ∧ Own K mg (hid M H) H p b ∧ RpA K mg (hid M H) ws ds ∧ SpIo K mg M p H Q (fi.sem (b :: ds))
theorem spF_len {K : PySem.W.Frag} {mg : MG} {fi : FI} {ps : List Str} (h : fi.n = ps.length) : ∀ vs H Q E, spF K mg fi vs H Q E → vs.length = ps.length := fun _ _ _ _ q => q.1.trans h
/-- an own def, as it can be called from here -/
def FnAt (X : Cx) (fi : FI) (x : Str) : Prop := ∃ k f fd ps, X.mg x = some (.ref f) ∧ PySem.W.keepIn X.K (.ref f) = true ∧ Binds X.K fd ps [] ∧ fi.n = ps.length ∧ FnOk X.prog X.w X.K (gm X) X.base (L2.CX X.prog X.w) k f fd ps (spF X.K (gm X) fi) ∧ Room k X.A
def wX (X : Cx) (W : Wish) : WX := fun cls d σ H => ∃ x a, X.mg x = some (.ref a) ∧ cls = .ref a ∧ d = none ∧ W x σ H
section
variable {X : Cx} {W : Wish} {M A M1 A1 : Set} {σ : St} {H H1 : Hp} {cx : Ctx} {ρ : Env}

theorem RvsOk.length {H0 : Hp} : ∀ {rs : List Rv} {vs : List V}, RvsOk X.K (gm X) M σ H0 H rs vs → vs.length = rs.length
  | _, _, .nil => rfl
  | _, _, .cons _ r => by simp [RvsOk.length r]
theorem headO_eq {rs : List Rv} {p : Nat × List Rv} (h : headO rs = some p) : rs = .o p.1 :: p.2 := by
  unfold headO at h
  split at h <;> cases h
  rfl
theorem escs_own {rs : List Rv} : ∀ {ρ ρ1 : Env} {ds : List D} {i : Nat} {d : D}, escs ρ rs = some (ds, ρ1) → get ρ1 i = .ow d → get ρ i = .ow d := by
  induction rs with
  | nil => intro ρ ρ1 ds i d h g; cases h; exact g
  | cons r rs ih =>
    intro ρ ρ1 ds i d h g
    simp only [escs] at h
    obtain ⟨p, h1, h⟩ := Option.bind_eq_some_iff.mp h
    obtain ⟨q, h2, h⟩ := Option.bind_eq_some_iff.mp h
    cases h
    have g1 := ih h2 g
    cases r with
    | d d => cases h1; exact g1
    | f d => cases h1; exact g1
    | l rs => cases h1
    | o j =>
      simp only [esc] at h1
      cases gj : get ρ j with
      | no => rw [gj] at h1; cases h1
      | fz e => rw [gj] at h1; cases h1; exact g1
      | ow e =>
        rw [gj] at h1
        cases h1
        rw [get_set] at g1
        split at g1
        · cases g1
        · exact g1

/-- a result taken over -/
theorem newR {p : Addr} (rel : Rel X.K (gm X) M A ρ σ H) (ex : Ex H H1) (hp : H p = none) (th : ∃ o, H1 p = some o) : ¬ A p ∧ Rel X.K (gm X) (fun a => a = p ∨ M a) A ρ σ H1 := by
  have ex' : Ex (hid M H) (hid (fun a => a = p ∨ M a) H1) := fun a u e => by
    obtain ⟨n, e⟩ := hid_some.mp e
    exact hid_some.mpr ⟨fun z => z.elim (ne_of_none e hp) n, ex a u e⟩
  refine ⟨fun z => nm_of rel hp (rel.am p z), rel.len, fun a z => .inr (rel.am a z), fun a z => z.elim (fun e => e ▸ th) fun z => let ⟨o, ho⟩ := rel.mh a z; ⟨o, ex a o ho⟩, fun j e hj => ?_, fun j e hj => ?_, rel.inj⟩
  · obtain ⟨v, h1, h2⟩ := rel.fz j e hj
    exact ⟨v, h1, h2.ex ex'⟩
  · obtain ⟨q, h1, h2, h3⟩ := rel.ow j e hj
    obtain ⟨u, hu⟩ := h3.there
    exact ⟨q, h1, h2, h3.ex ex' ((ex q u hu).trans hu.symm)⟩
theorem ret_rv {fr : Bool} {d : D} {v : V} {Q : VK} (acc : AccE X W M A σ H (gave (.ok d fr) ρ) Q) (rel : Rel X.K (gm X) M A ρ σ H) (ex : Ex H H1) (h : RetOk X.K (gm X) M H H1 fr d v) : Q v H1 := by
  cases fr with
  | false => exact acc v H1 M A (.of_ex ex) (rel.ex ex) h
  | true =>
    obtain ⟨p, rfl, hp, ho⟩ := h
    exact acc _ H1 M A (.of_ex ex) ⟨p, rfl, newR rel ex hp ho.there⟩ ⟨p, rfl, hp, nm_of rel hp, ho⟩
theorem snd_call {x : Str} {f : Nat} {fi : FI} {e : Expr} {es : List Expr} {c : C} {p pos : Pos} (hf : cx.fs[f]? = some fi) (F : FnAt X fi x) (hg : Gl X x) (tk : Takes X (wX X W)) (hdb : (x == ("__debug__" : Str)) = false)
    (he : starEach (e :: es) X.env = (false, eval e X.env) :: starEach es X.env) (hpl : (backTo pos (starEach es X.env)).any (·.1) = false) (ha : SndA cx X W (e :: es) c)
    (hn : ∀ ρ rs ρ1, ev cx c ρ = .ok (.l rs, ρ1) → rs.length = fi.n) :
    SndE cx X W (.Call (.Name x p) (e :: es) [] pos) (.call f c) := by
  intro ρ M A σ H Q rel acc
  obtain ⟨k, fa, fd, ps, hm, hk, hb, hps, fok, hr⟩ := F
  refine se_of (pe_callS fok hr hg hm hk hb (E := WE (wX X W)) (passAt tk) pa_sa hdb he hpl) ?_
  have acc : AccE X W M A σ H ((ev cx c ρ).bd fun x ρ1 => got (listOf x) fun rs => callF cx f rs ρ1) Q := acc
  have hlen : ∀ rs ρ1, ev cx c ρ = .ok (.l rs, ρ1) → rs.length = fi.n := fun rs ρ1 h => hn ρ rs ρ1 h
  refine ha ρ M A σ H _ rel ?_
  cases g : ev cx c ρ with
  | no => rw [g] at acc; exact acc
  | er x => rw [g] at acc; exact acc
  | ok pr =>
    obtain ⟨r, ρ1⟩ := pr
    rw [g] at acc
    intro rs vs H1 M1 A1 e1 s1 r1 h1 hsep
    clear hsep
    subst e1
    have acc : AccE X W M A σ H (callF cx f rs ρ1) Q := acc
    have acc := acc.step s1
    refine ⟨h1.length.trans (hlen rs ρ1 g), ?_⟩
    unfold callF at acc
    rw [hf] at acc
    simp only [got_some] at acc
    cases hio : fi.io with
    | false =>
      rw [hio] at acc
      obtain ⟨q, e2, acc⟩ := acc.of
      obtain ⟨M2, A2, s2, r2, h2⟩ := escs_ok (ρ1 := q.2) (ds := q.1) r1 h1 e2
      refine ⟨M2, r2.mh, q.1, h2, ?_⟩
      have acc := acc.step s2
      cases hs : fi.sem q.1 with
      | ok d fr =>
        rw [hs] at acc
        exact fun v H3 ex h => ret_rv acc r2 ex h
      | er x =>
        rw [hs] at acc
        exact fun a H3 hx ex => ⟨x, a, hx, rfl, rfl, acc H3 M2 A2 (.of_ex ex)⟩
      | io d fr b => rw [hs] at acc; exact acc
      | no => rw [hs] at acc; exact acc
    | true =>
      rw [hio] at acc
      obtain ⟨q, e2, acc1⟩ := acc.of
      obtain ⟨t, e3, acc2⟩ := acc1.of
      obtain ⟨b, e4, acc3⟩ := acc2.of
      clear acc acc1 acc2
      have er := headO_eq e2
      rw [er] at h1
      cases h1 with
      | cons hv hvs =>
        rename_i v ws
        have hv : σ[q.1]? = some (some v) := hv
        obtain ⟨M2, A2, s2, r2, h2⟩ := escs_ok (ρ1 := t.2) (ds := t.1) r1 hvs e3
        have g4 := owOf_eq e4
        obtain ⟨a, z1, z2, z3⟩ := r2.ow _ _ g4
        rw [hv] at z1
        cases z1
        refine ⟨M2, r2.mh, a, ws, b, t.1, rfl, r2.am a z2, z3, h2, ?_⟩
        have acc4 := acc3.step s2
        cases hs : fi.sem (b :: t.1) with
        | io d fr b' =>
          rw [hs] at acc4
          intro u H3 fr3 ho hret
          have ho' : Own X.K (gm X) (hid M2 H3) H3 a b' := ho.ex (hid_mono (fun a z => .inr z) fun _ _ _ e => e) rfl
          obtain ⟨s3, r3⟩ := Rel.put' r2 g4 hv (d' := b') (H1 := H3) ho' fr3
          cases fr with
          | false => exact acc4 u H3 M2 A2 s3 r3 hret
          | true =>
            obtain ⟨p', rfl, hp', ho1⟩ := hret
            have nm : ¬ M2 p' := nm_of r2 hp'
            refine acc4 _ H3 M2 A2 s3 ⟨p', rfl, fun z => nm (r2.am p' z), ?_⟩ ⟨p', rfl, hp', nm, ho1⟩
            have hne : p' ≠ a := fun e => nm (e ▸ r2.am a z2)
            have ex' : Ex (hid M2 H1) (hid (fun x => x = p' ∨ M2 x) H3) := fun x u e => by
              obtain ⟨n, e⟩ := hid_some.mp e
              exact hid_some.mpr ⟨fun z => z.elim (ne_of_none e hp') n, fr3 x u (fun z => n (z ▸ r2.am a z2)) e⟩
            refine ⟨r3.len, fun x z => .inr (r2.am x z), fun x z => z.elim (fun e => e ▸ ho1.there) (r3.mh x), fun j e hj => ?_, fun j e hj => ?_, r3.inj⟩
            · rw [get_set] at hj
              split at hj
              · cases hj
              · obtain ⟨v, q1, q2⟩ := r2.fz j e hj
                exact ⟨v, q1, q2.ex ex'⟩
            · rw [get_set] at hj
              split at hj
              · rename_i hij
                cases hj
                rw [← hij.1]
                exact ⟨a, hv, z2, ho.ex (hid_mono (fun x z => z.imp (fun q => ⟨rfl, by rw [q]⟩) id) fun _ _ _ e => e) rfl⟩
              · rename_i hij
                obtain ⟨x, q1, q2, q3⟩ := r2.ow j e hj
                obtain ⟨u, hu⟩ := q3.there
                have hx : x ≠ a := fun z => hij ⟨r2.inj _ j _ _ a g4 hj hv (z ▸ q1), get_lt g4 (by intro z; cases z)⟩
                exact ⟨x, q1, q2, q3.ex ex' ((fr3 x u hx hu).trans hu.symm)⟩
        | ok d fr => rw [hs] at acc4; exact acc4
        | er x => rw [hs] at acc4; exact acc4
        | no => rw [hs] at acc4; exact acc4
end
end Iv
set_option maxRecDepth 100000
set_option maxHeartbeats 4000000
/-! Iv9: what is walked. -/
namespace Iv
open PySem PySem.Spec PyProof.Rows L2

def SIt (X : Cx) (tg iter : Expr) : TI := fun σ H R => ∀ pins s, Inv X pins σ H s → wpAny (model X.prog X.w) X.A (eval iter X.env) (fun v s1 => wpAny (model X.prog X.w) X.A (pyIter v) (PIE X pins σ tg R) X.xe s1) X.xe s
theorem pi_si {X : Cx} {tg iter : Expr} : PI X tg iter (SIt X tg iter) := ⟨fun pins s σ H R I h => h pins s I⟩
theorem si_of {X : Cx} {tg iter : Expr} {t : TI} (h : PI X tg iter t) {σ : St} {H : Hp} {R : It → Hp → Prop} (q : t σ H R) : SIt X tg iter σ H R := fun pins s I => h.run pins s σ H R I q
/-- a turn's value as data: for a name, a datum; for names, a tuple's items -/
def BndOk (K : PySem.W.Frag) (mg : MG) (M : Set) (H : Hp) (v : V) (x : D) : Tg → Prop
  | .n _ => Rp K mg (hid M H) v x
  | .t _ => ∀ ds, x = .tuple ds → ∃ a vs, v = .ref a ∧ SqT K H a vs ∧ RpA K mg (hid M H) vs ds
def TW (X : Cx) (tg : Tg) (M : Set) (H1 : Hp) (vs : List V) (dsW : List D) (items : List D) (J : It) : Prop :=
  Walk J items.length (fun H' => ∀ a d o, (V.ref a, d) ∈ vs.zip dsW → kind d = 1 ∨ kind d = 2 → H1 a = some o → H' a = some o) (fun i H' x H'' => Ex H' H'' ∧ ∀ d M', items[i]? = some d → Ex (hid M H1) (hid M' H') → (∀ a, M' a → ∃ o, H' a = some o) → BndOk X.K (gm X) M' H'' x d tg)
section
variable {X : Cx} {W : Wish} {M A M1 A1 : Set} {σ : St} {H H1 : Hp} {cx : Ctx} {ρ : Env} {tg : Tg} {w : Wk}
def AccI (X : Cx) (W : Wish) (M A : Set) (σ : St) (H : Hp) (w : Wk) (tg : Tg) (res : R (Rv × Env)) (R0 : It → Hp → Prop) : Prop := match res with
  | .ok (r, ρ1) => ∃ rs ds items, r = .l rs ∧ reads ρ1 rs = some ds ∧ walked w ds = some items ∧ ∀ vs H1 M1 A1 J, Stp M A H M1 A1 H1 → Rel X.K (gm X) M1 A1 ρ1 σ H1 → RvsOk X.K (gm X) M1 σ H H1 rs vs → TW X tg M1 H1 vs ds items J → R0 J H1
  | .er x => ∀ H1 M1 A1, Stp M A H M1 A1 H1 → W x σ H1
  | .no => False
def SndI (cx : Ctx) (X : Cx) (W : Wish) (tge : Expr) (tg : Tg) (iter : Expr) (w : Wk) (c : C) : Prop :=
  ∀ ρ M A σ H (R0 : It → Hp → Prop), Rel X.K (gm X) M A ρ σ H → AccI X W M A σ H w tg (ev cx c ρ) R0 → SIt X tge iter σ H R0

/-- xs, the list or tuple itself -/
def iSeq (K : PySem.W.Frag) (tl : TE) : TI := fun σ H R => tl σ H fun x H1 => ∃ a xs, x = .ref a ∧ ((SqL K H1 a xs ∧ R (Itl K a) H1) ∨ (SqT K H1 a xs ∧ R (Itt K a) H1))
theorem pi_seq {tge : Expr} {l : Expr} {tl : TE} (hl : PE X l tl) : PI X tge l (iSeq X.K tl) := by
  refine ⟨fun pins s σ H R I h => ?_⟩
  refine thn (hl.run pins s σ H _ I h) fun v s1 ⟨x, H1, I1, r1, q1⟩ => ?_
  obtain ⟨a, xs, e, q1⟩ := q1
  subst e
  cases r1
  rcases q1 with ⟨hq, q⟩ | ⟨hq, q⟩
  · obtain ⟨its, rv, p, hz⟩ := I1.list hq
    refine wpAny_pyIter_list p.isList ?_
    refine ⟨s1.heap.objs.size, [s1.heap.objs.size], _, _, H1, rfl, I1.kept (t' := s1.toks) fun b o e => Heap.get?_push_of_some _ e, turn_list a _, ⟨_, Heap.get?_push_size _ rfl, rfl, rfl⟩, fun b hb => ?_, q⟩
    have e : b = s1.heap.objs.size := by simpa using hb
    subst e
    exact I1.fpOk (Nat.le_refl _) (I1.hok.fresh (Nat.le_refl _))
  · obtain ⟨its, rv, p, hz⟩ := I1.tuple hq
    refine wpAny_pyIter_tuple (show s1.heap.IsTuple a its.toArray from p) ?_
    refine ⟨s1.heap.objs.size, [s1.heap.objs.size], _, _, H1, rfl, I1.kept (t' := s1.toks) fun b o e => Heap.get?_push_of_some _ e, turn_tuple a _, ⟨_, Heap.get?_push_size _ rfl, rfl, rfl⟩, fun b hb => ?_, q⟩
    have e : b = s1.heap.objs.size := by simpa using hb
    subst e
    exact I1.fpOk (Nat.le_refl _) (I1.hok.fresh (Nat.le_refl _))
/-- the items of what is read -/
theorem bnd_of {v : V} {d : D} {M' : Set} (h : Rp X.K (gm X) (hid M' H) v d) : BndOk X.K (gm X) M' H v d tg := by
  cases tg with
  | n i => exact h
  | t is =>
    intro ds e
    subst e
    cases h with
    | tup h1 h2 h3 => exact ⟨_, _, rfl, .inl (.inr ⟨_, hid_le _ _ h1⟩), h3⟩
theorem snd_iseq {tge iter : Expr} {c : C} (he : SndE cx X W iter c) : SndI cx X W tge tg iter .seq (.cons c .nil) := by
  intro ρ M A σ H R0 rel acc
  refine si_of (pi_seq pe_se) (he ρ M A σ H _ rel ?_)
  have acc : AccI X W M A σ H .seq tg ((ev cx c ρ).bd fun x ρ1 => (R.ok (Rv.l [], ρ1)).bd fun y ρ2 => got (listOf y) fun ys => (R.ok (Rv.l (x :: ys), ρ2) : R (Rv × Env))) R0 := acc
  cases g : ev cx c ρ with
  | no => rw [g] at acc; exact acc
  | er x => rw [g] at acc; exact acc
  | ok p =>
    obtain ⟨r, ρ1⟩ := p
    rw [g] at acc
    obtain ⟨rs, ds, items, e1, e2, e3, acc⟩ := acc
    cases e1
    intro v H1 M1 A1 s1 r1 h1
    replace r1 := r1.weak h1
    have e2 : (read ρ1 r).bind (fun d => some [d]) = some ds := e2
    obtain ⟨d, ed, e2⟩ := Option.bind_eq_some_iff.mp e2
    cases e2
    have rd := read_ok r1 h1 ed
    cases d with
    | list xs =>
      cases e3
      obtain ⟨a, ys, rfl, ha, hr⟩ := rd.lst
      refine ⟨a, ys, rfl, .inl ⟨SqL.of ha, acc [.ref a] H1 M1 A1 _ s1 r1 (.cons h1 .nil) ?_⟩⟩
      have W0 := (walk_list (K := X.K) (a := a) (xs := ys))
      rw [hr.length] at W0
      refine W0.mono (fun H' hG => SqL.of (hG a (.list items) _ (by simp) (.inl rfl) ha)) fun i H' x H'' hi hG hy => ?_
      obtain ⟨rfl, hx⟩ := hy
      refine ⟨Ex.refl _, fun d M' hd hex _ => ?_⟩
      obtain ⟨v, hv1, hv2⟩ := hr.get hd
      rw [hx] at hv1
      cases hv1
      exact bnd_of (hv2.ex hex)
    | tuple xs =>
      cases e3
      obtain ⟨a, ys, o, rfl, ha, hd0, hr⟩ := rd.tup
      refine ⟨a, ys, rfl, .inr ⟨.inl (.inr ⟨_, ha⟩), acc [.ref a] H1 M1 A1 _ s1 r1 (.cons h1 .nil) ?_⟩⟩
      have W0 := (walk_tup (K := X.K) (a := a) (xs := ys))
      rw [hr.length] at W0
      refine W0.mono (fun H' hG => .inl (.inr ⟨_, hG a (.tuple items) _ (by simp) (.inr rfl) ha⟩)) fun i H' x H'' hi hG hy => ?_
      obtain ⟨rfl, hx⟩ := hy
      refine ⟨Ex.refl _, fun d M' hd hex _ => ?_⟩
      obtain ⟨v, hv1, hv2⟩ := hr.get hd
      rw [hx] at hv1
      cases hv1
      exact bnd_of (hv2.ex hex)
    | none => cases e3
    | bool _ => cases e3
    | int _ => cases e3
    | str _ => cases e3
    | dict _ => cases e3

theorem smallI_ok {i : Int} (h : smallI i = true) : -(2 ^ 62) < i ∧ i < 2 ^ 62 := by
  unfold smallI at h
  simpa using h
theorem rangeD_get {lo : Int} {n i : Nat} {d : D} (h : (rangeD lo n)[i]? = some d) : d = .int (lo + i) := by
  unfold rangeD at h
  rw [List.getElem?_map] at h
  obtain ⟨j, hj, rfl⟩ := Option.map_eq_some_iff.mp h
  obtain ⟨_, e⟩ := List.getElem?_eq_some_iff.mp hj
  rw [List.getElem_range] at e
  rw [e]
theorem rangeC_get {lo c : Int} {n i : Nat} {d : D} (h : (rangeC lo c n)[i]? = some d) : d = .int (lo + (i : Nat) * c) := by
  unfold rangeC at h
  rw [List.getElem?_map] at h
  obtain ⟨j, hj, rfl⟩ := Option.map_eq_some_iff.mp h
  obtain ⟨_, e⟩ := List.getElem?_eq_some_iff.mp hj
  rw [List.getElem_range] at e
  rw [e]
theorem rangeD_length {lo : Int} {n : Nat} : (rangeD lo n).length = n := by simp [rangeD]
theorem rangeC_length {lo c : Int} {n : Nat} : (rangeC lo c n).length = n := by simp [rangeC]
theorem tw_range {lo : Int} {n : Nat} {vs : List V} {dsW : List D} {i : Nat} : TW X (.n i) M H1 vs dsW (rangeD lo n) (Itr lo n) := by
  unfold TW
  rw [rangeD_length]
  refine (walk_range (lo := lo) (n := n)).mono (fun _ _ => trivial) fun j H' x H'' hj _ hy => ?_
  obtain ⟨rfl, rfl⟩ := hy
  refine ⟨Ex.refl _, fun d M' hd hex _ => ?_⟩
  rw [rangeD_get hd]
  exact .int _
theorem tw_rangeC {lo c : Int} {n : Nat} {vs : List V} {dsW : List D} {i : Nat} : TW X (.n i) M H1 vs dsW (rangeC lo c n) (Itc lo c n) := by
  unfold TW
  rw [rangeC_length]
  refine (walk_rangeC (lo := lo) (c := c) (n := n)).mono (fun _ _ => trivial) fun j H' x H'' hj _ hy => ?_
  obtain ⟨rfl, rfl⟩ := hy
  refine ⟨Ex.refl _, fun d M' hd hex _ => ?_⟩
  rw [rangeC_get hd]
  exact .int _
theorem RdsOk.len {vs : List V} {ds : List D} (h : RdsOk X.K (gm X) M H vs ds) : vs.length = ds.length := by
  induction h with
  | nil => rfl
  | cons _ _ ih => simp [ih]
/-- an argument list, then the walk -/
theorem iacc {c : C} {R0 : It → Hp → Prop} {es : List Expr} {Q1 : List V → Hp → Prop} (ha : SndA cx X W es c) (rel : Rel X.K (gm X) M A ρ σ H) (acc : AccI X W M A σ H w tg (ev cx c ρ) R0)
    (k : ∀ (rs : List Rv) (ds items : List D) (ρ1 : Env) (vs : List V) (H1 : Hp) (M1 A1 : Set), walked w ds = some items → RdsOk X.K (gm X) M1 H1 vs ds → (∀ J, TW X tg M1 H1 vs ds items J → R0 J H1) → Q1 vs H1) : SA X es σ H Q1 := by
  refine ha ρ M A σ H _ rel ?_
  cases g : ev cx c ρ with
  | no => rw [g] at acc; exact acc
  | er x => rw [g] at acc; exact acc
  | ok p =>
    obtain ⟨r, ρ1⟩ := p
    rw [g] at acc
    obtain ⟨rs, ds, items, e1, e2, e3, acc⟩ := acc
    intro rs' vs H1 M1 A1 e4 s1 r1 h1 _
    rw [e1] at e4
    cases e4
    exact k rs ds items ρ1 vs H1 M1 A1 e3 (reads_ok r1 h1 e2) fun J hJ => acc vs H1 M1 A1 J s1 r1 h1 hJ

theorem walked_r1 {ds items : List D} (h : walked .r1 ds = some items) : ∃ n, ds = [.int n] ∧ smallI n = true ∧ items = rangeD 0 n.toNat := by
  unfold walked at h
  split at h <;> rename_i hw <;> first | (cases hw; done) | skip
  all_goals first | (cases h; done) | skip
  split at h
  · cases h
    exact ⟨_, rfl, by assumption, rfl⟩
  · cases h
theorem walked_r2 {ds items : List D} (h : walked .r2 ds = some items) : ∃ a b, ds = [.int a, .int b] ∧ (smallI a = true ∧ smallI b = true) ∧ items = rangeD a (b - a).toNat := by
  unfold walked at h
  split at h <;> rename_i hw <;> first | (cases hw; done) | skip
  all_goals first | (cases h; done) | skip
  split at h
  · cases h
    exact ⟨_, _, rfl, by assumption, rfl⟩
  · cases h
theorem walked_r3 {ds items : List D} (h : walked .r3 ds = some items) : ∃ a b c, ds = [.int a, .int b, .int c] ∧ (smallI a = true ∧ smallI b = true ∧ 0 < c ∧ c < 1000) ∧ items = rangeC a c (stepN a b c) := by
  unfold walked at h
  split at h <;> rename_i hw <;> first | (cases hw; done) | skip
  all_goals first | (cases h; done) | skip
  split at h
  · cases h
    exact ⟨_, _, _, rfl, by assumption, rfl⟩
  · cases h
theorem RdsOk.i1 {vs : List V} {n : Int} (h : RdsOk X.K (gm X) M H vs [.int n]) : vs = [.int n] := by
  cases h with
  | cons h1 hr => cases hr; rw [h1.int]
theorem RdsOk.i2 {vs : List V} {n m : Int} (h : RdsOk X.K (gm X) M H vs [.int n, .int m]) : vs = [.int n, .int m] := by
  cases h with
  | cons h1 hr => rw [hr.i1, h1.int]
theorem RdsOk.i3 {vs : List V} {n m k : Int} (h : RdsOk X.K (gm X) M H vs [.int n, .int m, .int k]) : vs = [.int n, .int m, .int k] := by
  cases h with
  | cons h1 hr => rw [hr.i2, h1.int]
theorem snd_irange1 {tge a : Expr} {c : C} {p pos : Pos} {i : Nat} (hg : Gl X "range") (hm : X.mg "range" = none) (hs : starEach [a] X.env = [(false, eval a X.env)]) (ha : SndA cx X W [a] c) : SndI cx X W tge (.n i) (.Call (.Name "range" p) [a] [] pos) .r1 c := by
  intro ρ M A σ H R0 rel acc
  refine si_of (pi_range1 hg hm pa_sa hs) (iacc ha rel acc fun rs ds items ρ1 vs H1 M1 A1 e3 hr k => ?_)
  obtain ⟨n, rfl, hn, rfl⟩ := walked_r1 e3
  obtain ⟨q1, q2⟩ := smallI_ok hn
  have := hr.i1
  subst this
  exact ⟨n, rfl, by omega, q2, k _ tw_range⟩
theorem snd_irange2 {tge a b : Expr} {c : C} {p pos : Pos} {i : Nat} (hg : Gl X "range") (hm : X.mg "range" = none) (hs : starEach [a, b] X.env = [(false, eval a X.env), (false, eval b X.env)]) (hs2 : starEach [b] X.env = [(false, eval b X.env)]) (ha : SndA cx X W [a, b] c) :
    SndI cx X W tge (.n i) (.Call (.Name "range" p) [a, b] [] pos) .r2 c := by
  intro ρ M A σ H R0 rel acc
  refine si_of (pi_range2 hg hm pa_sa hs hs2) (iacc ha rel acc fun rs ds items ρ1 vs H1 M1 A1 e3 hr k => ?_)
  obtain ⟨n, m, rfl, hn, rfl⟩ := walked_r2 e3
  obtain ⟨q1, q2⟩ := smallI_ok hn.1
  obtain ⟨q3, q4⟩ := smallI_ok hn.2
  have := hr.i2
  subst this
  exact ⟨n, m, rfl, ⟨by omega, q2, by omega, q4⟩, k _ tw_range⟩
theorem rgC_pos {i j c : Int} (hi : -(2 ^ 62) < i ∧ i < 2 ^ 62) (hj : -(2 ^ 62) < j ∧ j < 2 ^ 62) (hc : 0 < c ∧ c < 1000) : RgC i j c (stepN i j c) := by
  have e : Builtin.Range.rangeSize i j c = (stepN i j c : Nat) := by
    unfold Builtin.Range.rangeSize stepN
    rw [if_pos hc.1]
    split
    · have := Int.ediv_nonneg (a := j - i - 1) (b := c) (by omega) (by omega)
      omega
    · rfl
  have hn : Builtin.Range.rangeSize i j c = 0 ∨ (0 ≤ Builtin.Range.rangeSize i j c ∧ Builtin.Range.rangeSize i j c ≤ j - i) := by
    unfold Builtin.Range.rangeSize
    rw [if_pos hc.1]
    split
    · have := Int.ediv_nonneg (a := j - i - 1) (b := c) (by omega) (by omega)
      have h1 := Int.ediv_le_self c (show (0 : Int) ≤ j - i - 1 by omega)
      omega
    · exact .inl rfl
  refine ⟨by omega, by omega, ?_, e⟩
  unfold Builtin.Range.small
  simp only [Builtin.Range.rangeFitsLong, Bool.and_eq_true, Bool.or_eq_true, decide_eq_true_eq, beq_iff_eq, if_pos (show c > 0 from hc.1)]
  omega
theorem snd_irange3 {tge a b d : Expr} {c : C} {p pos : Pos} {i : Nat} (hg : Gl X "range") (hm : X.mg "range" = none) (hs : starEach [a, b, d] X.env = (false, eval a X.env) :: starEach [b, d] X.env) (hpl : (backTo pos (starEach [b, d] X.env)).any (·.1) = false) (ha : SndA cx X W [a, b, d] c) :
    SndI cx X W tge (.n i) (.Call (.Name "range" p) [a, b, d] [] pos) .r3 c := by
  intro ρ M A σ H R0 rel acc
  refine si_of (pi_range3 hg hm pa_sa hs hpl) (iacc ha rel acc fun rs ds items ρ1 vs H1 M1 A1 e3 hr k => ?_)
  obtain ⟨n, m, l, rfl, hn, rfl⟩ := walked_r3 e3
  have := hr.i3
  subst this
  exact ⟨n, m, l, _, rfl, rgC_pos (smallI_ok hn.1) (smallI_ok hn.2.1) ⟨hn.2.2.1, hn.2.2.2⟩, k _ tw_rangeC⟩
end

/-! ### enumerate -/
theorem meets_enum1 {v : Value} {o : Obj} {H : Heap → Prop} (B : Begins v o H) :
    Meets (Builtin.«enumerate.__new__» ⟨[.type "enumerate", v], []⟩) (fun _ R s => H s.heap ∧
      R (.ok (.ret (.ref (s.heap.push o).objs.size))) { s with heap := (s.heap.push o).push { cls := .type "enumerate", data := .fields #[.none, .bool false, .ref s.heap.objs.size, rawInt 0, .none, .none] } }) :=
  .of_wp fun prog w A R s h => by
    obtain ⟨hp, g, d, tk, os⟩ := s; obtain ⟨h1, h⟩ := h
    have hsub := sub_enumerate
    have q1 : ∀ {A' : Around} {E : Value → Shared → Prop} {Q : Value → Shared → Prop}, Q (.ref hp.objs.size) ⟨hp.push o, g, d, tk, os⟩ → wpAny (model prog w) A' (pyIter v) Q E ⟨hp, g, d, tk, os⟩ :=
      fun q => B.iter prog w _ _ ⟨hp, g, d, tk, os⟩ _ h1 q
    wp_walk using q1
    refine wpAny_stack_any fun st => wpAny_pure ?_
    split
    · rename_i c _ _ _ _ _
      cases (c == Value.type "enumerate")
      · wp_walk using q1
        exact ⟨_, rfl, h⟩
      · wp_walk using q1
        exact ⟨_, rfl, h⟩
    · wp_walk using q1
      exact ⟨_, rfl, h⟩
theorem enum_begins1 {prog : Program} {w : World} {A : Around} {E : Value → Shared → Prop} {s : Shared} {v : Value} {o : Obj} {H : Heap → Prop} {Q : Value → Shared → Prop} (B : Begins v o H) (h1 : H s.heap)
    (h : ∀ h', IsEnum h' (s.heap.objs.size + 1) s.heap.objs.size 0 .none → h'.get? s.heap.objs.size = some o → h'.objs.size = s.heap.objs.size + 2 →
      (∀ b o, s.heap.get? b = some o → h'.get? b = some o) → Q (.ref (s.heap.objs.size + 1)) { s with heap := h' }) :
    wpAny (model prog w) A (call (.type "enumerate") [v]) Q E s := by
  refine callType_new F.called_enumerate (by decide) (F.typeCall_enumerate_1 _) (F.newCall_enumerate_1 _) (fun obj => F.args_object_init_2 obj _) F.entry_enumerate_new
    (meets_enum1 B) ⟨h1, ?_⟩
  have hz : (s.heap.push o).objs.size = s.heap.objs.size + 1 := Heap.size_push ..
  show _ ∧ _
  rw [hz]
  have he : IsEnum ((s.heap.push o).push { cls := .type "enumerate", data := .fields #[.none, .bool false, .ref s.heap.objs.size, rawInt 0, .none, .none] }) (s.heap.objs.size + 1) s.heap.objs.size 0 .none := by
    have := Heap.get?_push_size (s.heap.push o) (o := { cls := .type "enumerate", data := .fields #[.none, .bool false, .ref s.heap.objs.size, rawInt 0, .none, .none] }) rfl
    rw [hz] at this; exact this
  refine ⟨⟨_, he, rfl⟩, h _ he (Heap.get?_push_of_some _ (Heap.get?_push_size _ B.free)) (by rw [Heap.size_push, hz]) fun b o x => Heap.get?_push_of_some _ (Heap.get?_push_of_some _ x)⟩
theorem enum_endT {prog : Program} {w : World} {A : Around} {E : Value → Shared → Prop} {s : Shared} {e it t : Addr} {i : Nat} {items : Array Value} {old : Value} {Q : Option Value → Shared → Prop} (hh : A.handled = none)
    (he : IsEnum s.heap e it i old) (hit : s.heap.IsTupleIter it t i) (ht : s.heap.IsTuple t items) (hx : items[i]? = none)
    (hQ : ∀ h', Heap.ExtBut it s.heap h' → Q none { s with heap := h' }) : wpAny (model prog w) A (pyNext (.ref e)) Q E s := by
  have hT : s.TypeIs (.ref e) "enumerate" := ⟨_, he, rfl⟩
  unfold pyNext
  refine wpAny_bind (wpAny_attempt (wpAny_callSpecial?_slot (name := Str.ofString "__next__") hT F.slot_enumerate_next
    (wpAny_call_entry F.slot_enumerate_next hT F.entry_enumerate_next ?_ (F.args_enumerate_next_1 _))))
  show wpAny _ _ (field (.ref e) 2 >>= _) _ _ _
  refine wpAny_bind (wpAny_field he rfl (x := .ref it) rfl ?_)
  refine wpAny_bind (wpAny_nextOf_tuple_end (A := A.in1) hh hit ht hx fun h' x he' hx' => ?_)
  obtain ⟨o, ho, hc⟩ := hx'
  refine wpAny_bind (wpAny_isInstance (T := "StopIteration") (b := true) ⟨o, ho, hc⟩ isSubtype_stop ?_)
  exact wpAny_pure (hQ _ he')
/-- the tuple at a, each item in a new pair -/
def IteT (K : PySem.W.Frag) (a : Addr) (xs : List V) : It :=
  ⟨fun i H => SqT K H a xs ∧ i < xs.length, fun i H v H' => ∃ T x, v = .ref T ∧ H T = none ∧ H' = upd H T (.tup [.int (i : Nat), x]) ∧ xs[i]? = some x, fun i H => SqT K H a xs ∧ xs.length ≤ i⟩
theorem turn_enumT {P : Program} {w : World} {K : PySem.W.Frag} {elts : List Expr} {kk : Nat} {tpos : Pos} {xs : List V} (a e it : Addr) :
    Turn P w K (.Tuple elts kk tpos) (IteT K a xs) [e, it] e (fun i h => (∃ old, IsEnum h e it ((i : Nat) : Int) old) ∧ h.IsTupleIter it a i ∧ e ≠ it) where
  mem := by simp
  obj := fun i h st b hb => by
    obtain ⟨⟨old, he⟩, ⟨o, ho, hc, hd⟩, _⟩ := st
    have e' : b = e ∨ b = it := by simpa using hb
    rcases e' with z | z
    · rw [z]; exact ⟨_, he, fun v q => nomatch q⟩
    · rw [z]; exact ⟨o, ho, fun v q => by rw [hd] at q; cases q⟩
  keep := fun i h h' st k => let ⟨⟨old, he⟩, hi, hne⟩ := st; ⟨⟨old, k e (by simp) _ he⟩, hi.at fun o q => k it (by simp) o q, hne⟩
  item := by
    intro X hP hw hK hc i pins s σ H E I hf st hg
    subst hP hw hK
    obtain ⟨⟨old, he⟩, hit, hne⟩ := st
    obtain ⟨hq, hlt⟩ := hg
    obtain ⟨its, rv, p, hz⟩ := I.tuple hq
    have p : s.heap.IsTuple a its.toArray := p
    have hel : e < s.heap.objs.size := Heap.lt_size he
    have hil : it < s.heap.objs.size := by obtain ⟨_, q, _⟩ := hit; exact Heap.lt_size q
    have nai : a ≠ it := by
      rintro rfl
      obtain ⟨o1, h1, c1, _⟩ := p
      obtain ⟨o2, h2, c2, _⟩ := hit
      rw [h1] at h2
      cases h2
      rw [c1] at c2
      exact absurd (Value.type.inj c2) (by decide)
    have nea : e ≠ a := by
      rintro rfl
      obtain ⟨o1, h1, c1, _⟩ := p
      have he : s.heap.get? e = some _ := he
      rw [h1] at he
      cases he
      exact absurd (Value.type.inj c1) (by decide)
    have hsz : its.toArray.size = xs.length := by rw [List.size_toArray]; exact rv.length.symm
    refine wpAny_pyNext_enum_itemD (Draws.tuple (prog := X.prog) (w := X.w) (A := X.A.in1) (I.ok.hd hc) it a nai its.toArray) he ⟨hit, p⟩ (by rw [hsz]; exact hlt) hne (by simp [hne, nea]) fun u h' tk hu ho hst' hT hsz' hk => ?_
    have hu : its[i]? = some u := by simpa using hu
    obtain ⟨x, hx, ru⟩ : ∃ x, xs[i]? = some x ∧ RelV x u := by
      obtain ⟨u', hu', ru'⟩ := rv.get (show xs[i]? = some xs[i] by simp [hlt])
      rw [hu] at hu'
      cases hu'
      exact ⟨_, by simp [hlt], ru'⟩
    refine ⟨_, rfl, wpAny_letOwnedTupleGo_enum (s := { s with heap := h', toks := tk + 1 }) ho fun h'' he' sb => ?_⟩
    have hT2 : h''.get? s.heap.objs.size = some { cls := .type "tuple", data := .seq #[.int i tk, u] } := (sb.2 _ (Nat.ne_of_gt hel)).trans hT
    have new : ObjOk X.prog X.w (upd H s.heap.objs.size (.tup [.int (i : Nat), x])) h'' s.heap.objs.size (.tup [.int (i : Nat), x]) :=
      ⟨by show 2 ≤ sizeLine; decide, [.int i tk, u], .cons ⟨_, rfl⟩ (.cons ru .nil), ⟨_, hT2, rfl, _, rfl⟩⟩
    have I1 : Inv X pins σ (upd H s.heap.objs.size (.tup [.int (i : Nat), x])) { s with heap := h'', toks := tk + 1 } :=
      I.turnedNew (ch := [e, it]) (fun b ob hb q => (sb.2 b (fun z => hb (by simp [z]))).trans (hk b ob (fun z => hb (by simp [z])) (fun z => hb (by simp [z])) q)) hf (Nat.le_refl _) new
    refine ⟨.ref s.heap.objs.size, _, I1, rfl, ⟨_, x, rfl, I.hok.fresh (Nat.le_refl _), rfl, hx⟩, ⟨⟨u, ?_⟩, hst'.1.at fun o q => (sb.2 it (Ne.symm hne)).trans q, hne⟩, fun b hb => ?_⟩
    · have e1 : ((i + 1 : Nat) : Int) = (i : Int) + 1 := by omega
      rw [e1]; exact he'
    · have hb' : b < s.heap.objs.size := by
        have e' : b = e ∨ b = it := by simpa using hb
        rcases e' with z | z
        · rw [z]; exact hel
        · rw [z]; exact hil
      rw [upd_ne (Nat.ne_of_lt hb')]
      exact (hf b hb).1
  done := by
    intro X hP hw hK hc i pins s σ H E I hf st hg
    subst hP hw hK
    obtain ⟨⟨old, he⟩, hit, hne⟩ := st
    obtain ⟨hq, hle⟩ := hg
    obtain ⟨its, rv, p, hz⟩ := I.tuple hq
    have p : s.heap.IsTuple a its.toArray := p
    have nai : a ≠ it := by
      rintro rfl
      obtain ⟨o1, h1, c1, _⟩ := p
      obtain ⟨o2, h2, c2, _⟩ := hit
      rw [h1] at h2
      cases h2
      rw [c1] at c2
      exact absurd (Value.type.inj c2) (by decide)
    obtain ⟨f0, f1, f2, f3, f4, f5⟩ := hf it (by simp)
    exact enum_endT (I.ok.hd hc) he hit p (by rw [List.getElem?_toArray]; exact List.getElem?_eq_none (by rw [← rv.length]; exact hle)) fun h' eb => ⟨rfl, I.turned (t' := s.toks) (fun b o hb q => eb b o hb q) f0 f1 f3 f4 f5⟩
  self := fun A i s Q E st h => let ⟨⟨_, he⟩, _⟩ := st; wpAny_pyIter_enum he h
section
variable {X : Cx} {W : Wish} {M A M1 A1 : Set} {σ : St} {H H1 : Hp} {cx : Ctx} {ρ : Env} {tg : Tg}
def iEnumT (K : PySem.W.Frag) (ta : TA) : TI := fun σ H R => ta σ H fun vs H1 => ∃ a xs, vs = [.ref a] ∧ ((SqL K H1 a xs ∧ R (Ite K a) H1) ∨ (SqT K H1 a xs ∧ R (IteT K a xs) H1))
theorem pi_enumT {e : Expr} {ta : TA} {p pos tpos : Pos} {elts : List Expr} {kk : Nat} (hg : Gl X "enumerate") (hm : X.mg "enumerate" = none) (ha : PA X [e] ta) (hs : starEach [e] X.env = [(false, eval e X.env)]) :
    PI X (.Tuple elts kk tpos) (.Call (.Name "enumerate" p) [e] [] pos) (iEnumT X.K ta) := by
  refine ⟨fun pins s σ H R I h => ?_⟩
  refine Call_ (ld_blt I hg hm boot_enumerate (PyProof.Rows.callWith_type1 (thn (ha.run pos pins s σ H _ I h) fun us s1 ⟨vs, H1, I1, r1, q1⟩ => ?_) hs rfl))
  obtain ⟨a, xs, ex, q1⟩ := q1
  subst ex
  cases r1 with
  | cons r rr =>
    cases rr
    cases r
    have fp : ∀ {h' : Heap} (hk : ∀ b o, s1.heap.get? b = some o → h'.get? b = some o), ∀ b ∈ [s1.heap.objs.size + 1, s1.heap.objs.size], FpOk X pins H1 b := fun {h'} hk b hb => by
      have e' : b = s1.heap.objs.size + 1 ∨ b = s1.heap.objs.size := by simpa using hb
      have hle : s1.heap.objs.size ≤ b := by
        rcases e' with z | z
        · rw [z]; exact Nat.le_add_right _ _
        · rw [z]; exact Nat.le_refl _
      exact I1.fpOk hle (I1.hok.fresh hle)
    rcases q1 with ⟨hq, q⟩ | ⟨hq, q⟩
    · obtain ⟨its, rv, p', hz⟩ := I1.list hq
      refine call_enumerate_list p'.isList fun h' he hit hsz hk => wpAny_pyIter_enum he ?_
      have I2 : Inv X pins σ H1 { s1 with heap := h' } := I1.kept (t' := s1.toks) hk
      exact ⟨s1.heap.objs.size + 1, [s1.heap.objs.size + 1, s1.heap.objs.size], _, _, H1, rfl, I2, turn_enum a (s1.heap.objs.size + 1) s1.heap.objs.size, ⟨⟨.none, he⟩, hit, Nat.succ_ne_self _⟩, fp hk, q⟩
    · obtain ⟨its, rv, p', hz⟩ := I1.tuple hq
      refine enum_begins1 (begins_tuple a its.toArray) p' fun h' he hit hsz hk => wpAny_pyIter_enum he ?_
      have I2 : Inv X pins σ H1 { s1 with heap := h' } := I1.kept (t' := s1.toks) hk
      exact ⟨s1.heap.objs.size + 1, [s1.heap.objs.size + 1, s1.heap.objs.size], _, _, H1, rfl, I2, turn_enumT a (s1.heap.objs.size + 1) s1.heap.objs.size, ⟨⟨.none, he⟩, ⟨_, hit, rfl, rfl⟩, Nat.succ_ne_self _⟩, fp hk, q⟩
theorem walk_enumT {K : PySem.W.Frag} {a : Addr} {xs : List V} : Walk (IteT K a xs) xs.length (fun H => SqT K H a xs) (YPair (fun i => some (.int (i : Nat))) (fun i => xs[i]?)) :=
  ⟨fun i _ hi q => ⟨q, hi⟩, fun _ q => ⟨q, Nat.le_refl _⟩, fun i H v H' _ q y => by
    obtain ⟨T, x, h1, h2, h3, h4⟩ := y
    exact ⟨T, .int (i : Nat), x, h1, h2, h3, rfl, h4⟩⟩
theorem enumD_get {xs : List D} : ∀ {k i : Nat} {d : D}, (enumD k xs)[i]? = some d → ∃ x, xs[i]? = some x ∧ d = .tuple [.int ((k + i : Nat) : Int), x] := by
  induction xs with
  | nil => intro k i d h; simp [enumD] at h
  | cons x xs ih =>
    intro k i d h
    cases i with
    | zero =>
      simp [enumD] at h
      exact ⟨x, rfl, h.symm⟩
    | succ i =>
      simp [enumD] at h
      obtain ⟨y, h1, h2⟩ := ih h
      refine ⟨y, by simpa using h1, ?_⟩
      rw [h2, show k + 1 + i = k + (i + 1) by omega]
theorem enumD_length {xs : List D} : ∀ {k : Nat}, (enumD k xs).length = xs.length := by
  induction xs with
  | nil => intro k; rfl
  | cons x xs ih => intro k; simp [enumD, ih]
/-- the turns of enumerate, told as data -/
theorem tw_enum {ys : List V} {xs : List D} {J : It} {d0 : D} {vs : List V} {is : List Nat} (hr : RpA X.K (gm X) (hid M1 H1) ys xs) (W0 : Walk J ys.length (fun H' => ∀ a d o, (V.ref a, d) ∈ vs.zip [d0] → kind d = 1 ∨ kind d = 2 → H1 a = some o → H' a = some o) (YPair (fun i => some (.int (i : Nat))) (fun i => ys[i]?))) :
    TW X (.t is) M1 H1 vs [d0] (enumD 0 xs) J := by
  unfold TW
  rw [enumD_length, ← hr.length]
  refine W0.mono (fun _ h => h) fun i H' x H'' hi hG hy => ?_
  obtain ⟨T, x1, y, rfl, hT, rfl, h1, h2⟩ := hy
  have ex : Ex H' (upd H' T (.tup [x1, y])) := Ex.new hT
  refine ⟨ex, fun d M' hd hex hmh ds e => ?_⟩
  obtain ⟨z, hz, rfl⟩ := enumD_get hd
  cases e
  cases h1
  obtain ⟨v, hv1, hv2⟩ := hr.get hz
  have h2 : ys[i]? = some y := h2
  rw [h2] at hv1
  cases hv1
  refine ⟨T, [.int (i : Nat), y], rfl, SqT.of upd_same, ?_⟩
  rw [Nat.zero_add]
  exact .cons (.int _) (.cons ((hv2.ex hex).ex (Ex.hid ex)) .nil)
theorem snd_ienum {elts : List Expr} {kk : Nat} {tpos p pos : Pos} {a : Expr} {c : C} {is : List Nat} (hg : Gl X "enumerate") (hm : X.mg "enumerate" = none) (hs : starEach [a] X.env = [(false, eval a X.env)]) (ha : SndA cx X W [a] c) :
    SndI cx X W (.Tuple elts kk tpos) (.t is) (.Call (.Name "enumerate" p) [a] [] pos) .enum c := by
  intro ρ M A σ H R0 rel acc
  refine si_of (pi_enumT hg hm pa_sa hs) (iacc ha rel acc fun rs ds items ρ1 vs H1 M1 A1 e3 hr k => ?_)
  unfold walked at e3
  split at e3 <;> rename_i hw <;> first | (cases hw; done) | skip
  all_goals first | (cases e3; done) | skip
  · cases e3
    cases hr with
    | cons h1 hr =>
      cases hr
      obtain ⟨b, ys, rfl, hb, hy⟩ := h1.lst
      exact ⟨b, ys, rfl, .inl ⟨SqL.of hb, k _ (tw_enum hy (walk_enum.mono (fun H' h => SqL.of (h b (.list _) _ List.mem_cons_self (.inl rfl) hb)) fun _ _ _ _ _ _ y => y))⟩⟩
  · cases e3
    cases hr with
    | cons h1 hr =>
      cases hr
      obtain ⟨b, ys, o, rfl, hb, _, hy⟩ := h1.tup
      exact ⟨b, ys, rfl, .inr ⟨.inl (.inr ⟨_, hb⟩), k _ (tw_enum hy (walk_enumT.mono (fun H' h => .inl (.inr ⟨_, h b (.tuple _) _ List.mem_cons_self (.inr rfl) hb⟩)) fun _ _ _ _ _ _ y => y))⟩⟩
end
end Iv
set_option maxRecDepth 100000
set_option maxHeartbeats 4000000
/-! Iv9z: zip of two, each a list or a tuple. -/
namespace Iv
open PySem PySem.Spec PyProof.Rows L2

inductive Sk where
  | l | t
def Sk.sq (K : PySem.W.Frag) : Sk → Hp → Addr → List V → Prop
  | .l => SqL K
  | .t => SqT K
def Sk.it : Sk → Heap → Addr → Addr → Nat → Prop
  | .l => fun h it a i => h.IsListIter it a i
  | .t => fun h it a i => h.IsTupleIter it a i
def Sk.is : Sk → Heap → Addr → Array Value → Prop
  | .l => fun h a its => h.IsList a its
  | .t => fun h a its => h.IsTuple a its
def Sk.ob : Sk → Addr → Obj
  | .l => fun a => { cls := .type "list_iterator", data := .fields #[.ref a, .int 0 0] }
  | .t => fun a => { cls := .type "tuple_iterator", data := .fields #[.ref a, .int 0 0] }
theorem Sk.at (k : Sk) {h h' : Heap} {it a : Addr} {i : Nat} (x : k.it h it a i) (e : ∀ o, h.get? it = some o → h'.get? it = some o) : k.it h' it a i := by
  cases k
  · exact Heap.IsListIter.at (show h.IsListIter it a i from x) e
  · exact Heap.IsTupleIter.at (show h.IsTupleIter it a i from x) e
theorem Sk.obj (k : Sk) {h : Heap} {it a : Addr} {i : Nat} (x : k.it h it a i) : ∃ o, h.get? it = some o ∧ ∀ v, o.data ≠ .cell v := by
  cases k
  · obtain ⟨o, e, _, d⟩ := (show h.IsListIter it a i from x)
    exact ⟨o, e, fun v q => by rw [d] at q; cases q⟩
  · obtain ⟨o, e, _, d⟩ := (show h.IsTupleIter it a i from x)
    exact ⟨o, e, fun v q => by rw [d] at q; cases q⟩
theorem Sk.draws (k : Sk) {prog : Program} {w : World} {A : Around} (hh : A.handled = none) (it a : Addr) (hne : a ≠ it) (items : Array Value) :
    Draws prog w A it [it, a] items.size (fun i v => items[i]? = some v) (fun i h => k.it h it a i ∧ k.is h a items) := by
  cases k
  · exact Draws.list hh it a hne items
  · exact Draws.tuple hh it a hne items
theorem Sk.begins (k : Sk) (a : Addr) (items : Array Value) : Begins (.ref a) (k.ob a) fun h => k.is h a items := by
  cases k
  · exact begins_list a items
  · exact begins_tuple a items
theorem Sk.new (k : Sk) {h : Heap} {it a : Addr} (e : h.get? it = some (k.ob a)) : k.it h it a 0 := by
  cases k
  · exact ⟨_, e, rfl, rfl⟩
  · exact ⟨_, e, rfl, rfl⟩
theorem Sk.of (k : Sk) {X : Cx} {pins : List (Addr × Obj)} {σ : St} {H : Hp} {s : Shared} {a : Addr} {xs : List V} (I : Inv X pins σ H s) (h : k.sq X.K H a xs) : ∃ its, Vals xs its ∧ k.is s.heap a its.toArray ∧ a < s.heap.objs.size := by
  cases k
  · obtain ⟨its, r, p, _⟩ := I.list (show SqL X.K H a xs from h)
    exact ⟨its, r, p.isList, p.lt⟩
  · obtain ⟨its, r, p, _⟩ := I.tuple (show SqT X.K H a xs from h)
    obtain ⟨o, e, _⟩ := id p
    exact ⟨its, r, p, Heap.lt_size e⟩
theorem Sk.ne (k : Sk) {h : Heap} {a it b : Addr} {i : Nat} {items : Array Value} {k2 : Sk} (x : k.is h a items) (y : k2.it h it b i) : a ≠ it := by
  rintro rfl
  have hx : ∃ o, h.get? a = some o ∧ (o.cls = .type "list" ∨ o.cls = .type "tuple") := by
    cases k
    · obtain ⟨o, e, c, _⟩ := (show h.IsList a items from x)
      exact ⟨o, e, .inl c⟩
    · obtain ⟨o, e, c, _⟩ := (show h.IsTuple a items from x)
      exact ⟨o, e, .inr c⟩
  have hy : ∃ o, h.get? a = some o ∧ (o.cls = .type "list_iterator" ∨ o.cls = .type "tuple_iterator") := by
    cases k2
    · obtain ⟨o, e, c, _⟩ := (show h.IsListIter a b i from y)
      exact ⟨o, e, .inl c⟩
    · obtain ⟨o, e, c, _⟩ := (show h.IsTupleIter a b i from y)
      exact ⟨o, e, .inr c⟩
  obtain ⟨o, e, c⟩ := hx
  obtain ⟨o', e', c'⟩ := hy
  rw [e] at e'
  cases e'
  rcases c with c | c <;> rcases c' with c' | c' <;> (rw [c] at c'; exact absurd (Value.type.inj c') (by decide))
/-- both as they stand, the items in new pairs -/
def ItzM (K : PySem.W.Frag) (k1 k2 : Sk) (a b : Addr) (xs ys : List V) : It :=
  ⟨fun i H => k1.sq K H a xs ∧ k2.sq K H b ys ∧ i < xs.length ∧ i < ys.length, fun i H v H' => ∃ T x y, v = .ref T ∧ H T = none ∧ H' = upd H T (.tup [x, y]) ∧ xs[i]? = some x ∧ ys[i]? = some y,
    fun i H => k1.sq K H a xs ∧ k2.sq K H b ys ∧ i ≤ xs.length ∧ i ≤ ys.length ∧ (i = xs.length ∨ i = ys.length)⟩
theorem turn_zipM {P : Program} {w : World} {K : PySem.W.Frag} {elts : List Expr} {kk : Nat} {tpos : Pos} {k1 k2 : Sk} {xs ys : List V} {a b z TI TO i1 i2 : Addr} (D : ZipSep2 z TI TO i1 i2 [i1, a] [i2, b]) :
    Turn P w K (.Tuple elts kk tpos) (ItzM K k1 k2 a b xs ys) [z, TI, TO, i1, i2] z (fun i h => IsZip h z TI TO .none ∧ IsTupOf2 h TI (.ref i1) (.ref i2) ∧ (∃ x y, IsTupOf2 h TO x y) ∧ k1.it h i1 a i ∧ k2.it h i2 b i) where
  mem := by simp
  obj := fun i h st c hc => by
    obtain ⟨hz, hTI, ⟨x, y, hTO⟩, h1, h2⟩ := st
    have e' : c = z ∨ c = TI ∨ c = TO ∨ c = i1 ∨ c = i2 := by simpa using hc
    rcases e' with q | q | q | q | q
    · rw [q]; exact ⟨_, hz, fun v q => nomatch q⟩
    · rw [q]; exact ⟨_, hTI, fun v q => nomatch q⟩
    · rw [q]; exact ⟨_, hTO, fun v q => nomatch q⟩
    · rw [q]; exact k1.obj h1
    · rw [q]; exact k2.obj h2
  keep := fun i h h' st k => by
    obtain ⟨hz, hTI, ⟨x, y, hTO⟩, h1, h2⟩ := st
    exact ⟨k z (by simp) _ hz, k TI (by simp) _ hTI, ⟨x, y, k TO (by simp) _ hTO⟩, k1.at h1 fun o q => k i1 (by simp) o q, k2.at h2 fun o q => k i2 (by simp) o q⟩
  item := by
    intro X hP hw hK hc i pins s σ H E I hf st hg
    subst hP hw hK
    obtain ⟨hz, hTI, ⟨x0, y0, hTO⟩, h1, h2⟩ := st
    obtain ⟨hqx, hqy, l1, l2⟩ := hg
    obtain ⟨its, rv, p, _⟩ := k1.of I hqx
    obtain ⟨its2, rv2, p2, _⟩ := k2.of I hqy
    have hzl : z < s.heap.objs.size := Heap.lt_size hz
    have D1 := k1.draws (prog := X.prog) (w := X.w) (A := X.A.in1) (I.ok.hd hc) i1 a (k1.ne p h1) its.toArray
    have D2 := k2.draws (prog := X.prog) (w := X.w) (A := X.A.in1) (I.ok.hd hc) i2 b (k2.ne p2 h2) its2.toArray
    refine wpAny_pyNext_zipD2_item D D1 D2 hz hTI hTO ⟨h1, p⟩ ⟨h2, p2⟩ (by rw [List.size_toArray, ← rv.length]; exact l1) (by rw [List.size_toArray, ← rv2.length]; exact l2) fun u u2 h' tk hu hu2 z' TO' h1' h2' hT hsz hk => ?_
    have hu : its[i]? = some u := by simpa using hu
    have hu2 : its2[i]? = some u2 := by simpa using hu2
    obtain ⟨x, hx, ru⟩ : ∃ x, xs[i]? = some x ∧ RelV x u := by
      obtain ⟨u', hu', ru'⟩ := rv.get (show xs[i]? = some xs[i] by simp [l1])
      rw [hu] at hu'
      cases hu'
      exact ⟨_, by simp [l1], ru'⟩
    obtain ⟨y, hy, ru2⟩ : ∃ y, ys[i]? = some y ∧ RelV y u2 := by
      obtain ⟨u', hu', ru'⟩ := rv2.get (show ys[i]? = some ys[i] by simp [l2])
      rw [hu2] at hu'
      cases hu'
      exact ⟨_, by simp [l2], ru'⟩
    refine ⟨_, rfl, wpAny_letOwnedTupleGo_zip (s := { s with heap := h', toks := tk }) z' fun h'' z'' sb => ?_⟩
    have hT2 : h''.get? s.heap.objs.size = some { cls := .type "tuple", data := .seq #[u, u2] } := (sb.2 _ (Nat.ne_of_gt hzl)).trans hT
    have new : ObjOk X.prog X.w (upd H s.heap.objs.size (.tup [x, y])) h'' s.heap.objs.size (.tup [x, y]) :=
      ⟨by show 2 ≤ sizeLine; decide, [u, u2], .cons ru (.cons ru2 .nil), ⟨_, hT2, rfl, _, rfl⟩⟩
    have I1 : Inv X pins σ (upd H s.heap.objs.size (.tup [x, y])) { s with heap := h'', toks := tk } :=
      I.turnedNew (ch := [z, TI, TO, i1, i2]) (fun c o hb q => (sb.2 c (fun q' => hb (by simp [q']))).trans (hk c o (fun q' => hb (by simp [q'])) (fun q' => hb (by simp [q'])) (fun q' => hb (by simp [q'])) (fun q' => hb (by simp [q'])) q)) hf (Nat.le_refl _) new
    refine ⟨.ref s.heap.objs.size, _, I1, rfl, ⟨_, x, y, rfl, I.hok.fresh (Nat.le_refl _), rfl, hx, hy⟩, ⟨z'', ?_, ⟨u, u2, ?_⟩, ?_, ?_⟩, fun c hcm => ?_⟩
    · exact (sb.2 _ D.TIz).trans (hk _ _ D.TIz D.TITO D.TIi1 D.TIi2 hTI)
    · exact (sb.2 _ D.TOz).trans TO'
    · exact k1.at h1'.1 fun o q => (sb.2 _ (Ne.symm D.zi1)).trans q
    · exact k2.at h2'.1 fun o q => (sb.2 _ (Ne.symm D.zi2)).trans q
    · have hlt : c < s.heap.objs.size := by
        have e' : c = z ∨ c = TI ∨ c = TO ∨ c = i1 ∨ c = i2 := by simpa using hcm
        rcases e' with q | q | q | q | q
        · rw [q]; exact hzl
        · rw [q]; exact Heap.lt_size hTI
        · rw [q]; exact Heap.lt_size hTO
        · rw [q]; obtain ⟨_, e1, _⟩ := k1.obj h1; exact Heap.lt_size e1
        · rw [q]; obtain ⟨_, e2, _⟩ := k2.obj h2; exact Heap.lt_size e2
      rw [upd_ne (Nat.ne_of_lt hlt)]
      exact (hf c hcm).1
  done := by
    intro X hP hw hK hc i pins s σ H E I hf st hg
    subst hP hw hK
    obtain ⟨hz, hTI, ⟨x0, y0, hTO⟩, h1, h2⟩ := st
    obtain ⟨hqx, hqy, l1, l2, hend⟩ := hg
    obtain ⟨its, rv, p, _⟩ := k1.of I hqx
    obtain ⟨its2, rv2, p2, _⟩ := k2.of I hqy
    have e1 : its.toArray.size = xs.length := by rw [List.size_toArray, ← rv.length]
    have e2 : its2.toArray.size = ys.length := by rw [List.size_toArray, ← rv2.length]
    have D1 := k1.draws (prog := X.prog) (w := X.w) (A := X.A.in1) (I.ok.hd hc) i1 a (k1.ne p h1) its.toArray
    have D2 := k2.draws (prog := X.prog) (w := X.w) (A := X.A.in1) (I.ok.hd hc) i2 b (k2.ne p2 h2) its2.toArray
    exact wpAny_pyNext_zipD2_end D D1 D2 hz hTI hTO ⟨h1, p⟩ ⟨h2, p2⟩ (by rw [e1]; exact l1) (by rw [e2]; exact l2) (by rw [e1, e2]; exact hend) fun h' tk hk => ⟨rfl, I.turnedL (t' := tk) (ch := [z, TI, TO, i1, i2]) (fun c o hb q =>
      hk c o (fun q' => hb (by simp [q'])) (fun q' => hb (by simp [q'])) (fun q' => hb (by simp [q'])) (fun q' => hb (by simp [q'])) q) hf⟩
  self := fun A i s Q E st h => wpAny_pyIter_zip st.1 h
section
variable {X : Cx} {W : Wish} {M A M1 A1 : Set} {σ : St} {H H1 : Hp} {cx : Ctx} {ρ : Env} {tg : Tg}
def iZipM (K : PySem.W.Frag) (ta : TA) : TI := fun σ H R => ta σ H fun vs H1 => ∃ k1 k2 a b xs ys, vs = [.ref a, .ref b] ∧ Sk.sq K k1 H1 a xs ∧ Sk.sq K k2 H1 b ys ∧ R (ItzM K k1 k2 a b xs ys) H1
theorem pi_zipM {e e2 : Expr} {ta : TA} {p pos tpos : Pos} {elts : List Expr} {kk : Nat} (hg : Gl X "zip") (hm : X.mg "zip" = none) (ha : PA X [e, e2] ta)
    (hs : starEach [e, e2] X.env = (false, eval e X.env) :: starEach [e2] X.env) (hpl : (backTo pos (starEach [e2] X.env)).any (·.1) = false) :
    PI X (.Tuple elts kk tpos) (.Call (.Name "zip" p) [e, e2] [] pos) (iZipM X.K ta) := by
  refine ⟨fun pins s σ H R I h => ?_⟩
  refine Call_ (ld_blt I hg hm PyProof.Rows.boot_zip (PyProof.Rows.callWith_type1 (thn (ha.run pos pins s σ H _ I h) fun us s1 ⟨vs, H1, I1, r1, q1⟩ => ?_) hs hpl))
  obtain ⟨k1, k2, a, b, xs, ys, ex, hqx, hqy, q⟩ := q1
  subst ex
  cases r1 with
  | cons r rr =>
    cases rr with
    | cons r' rr =>
      cases rr
      cases r
      cases r'
      obtain ⟨its, rv, p1, la⟩ := k1.of I1 hqx
      obtain ⟨its2, rv2, p2, lb⟩ := k2.of I1 hqy
      have fresh5 : ∀ c, c ∈ [s1.heap.objs.size + 4, s1.heap.objs.size + 2, s1.heap.objs.size + 3, s1.heap.objs.size, s1.heap.objs.size + 1] → FpOk X pins H1 c := fun c hcm => by
        have e' : c = s1.heap.objs.size + 4 ∨ c = s1.heap.objs.size + 2 ∨ c = s1.heap.objs.size + 3 ∨ c = s1.heap.objs.size ∨ c = s1.heap.objs.size + 1 := by simpa using hcm
        have hle : s1.heap.objs.size ≤ c := by
          rcases e' with z | z | z | z | z
          · rw [z]; exact Nat.le_add_right _ _
          · rw [z]; exact Nat.le_add_right _ _
          · rw [z]; exact Nat.le_add_right _ _
          · rw [z]; exact Nat.le_refl _
          · rw [z]; exact Nat.le_add_right _ _
        exact I1.fpOk hle (I1.hok.fresh hle)
      refine zip_begins2 (k1.begins a its.toArray) (k2.begins b its2.toArray) p1 p2 fun h' hz hTI hTO h1 h2 hsz hk => wpAny_pyIter_zip hz ?_
      have I2 : Inv X pins σ H1 { s1 with heap := h' } := I1.kept (t' := s1.toks) hk
      exact ⟨s1.heap.objs.size + 4, [s1.heap.objs.size + 4, s1.heap.objs.size + 2, s1.heap.objs.size + 3, s1.heap.objs.size, s1.heap.objs.size + 1], _, _, H1, rfl, I2, turn_zipM (zip_sep2 (fp1 := [a]) (fp2 := [b]) (by simpa using la) (by simpa using lb)), ⟨hz, hTI, ⟨_, _, hTO⟩, k1.new h1, k2.new h2⟩, fresh5, q⟩
theorem walk_zipM {K : PySem.W.Frag} {k1 k2 : Sk} {a b : Addr} {xs ys : List V} {n : Nat} (hn : n = min xs.length ys.length) : Walk (ItzM K k1 k2 a b xs ys) n (fun H => k1.sq K H a xs ∧ k2.sq K H b ys) (YPair (fun i => xs[i]?) (fun i => ys[i]?)) :=
  ⟨fun i _ hi q => ⟨q.1, q.2, by omega, by omega⟩, fun _ q => ⟨q.1, q.2, by omega, by omega, by omega⟩, fun i H v H' _ q y => by
    obtain ⟨T, x, z, h1, h2, h3, h4, h5⟩ := y
    exact ⟨T, x, z, h1, h2, h3, h4, h5⟩⟩
theorem sk_of {v : V} {d : D} {xs : List D} (h : RdOk X.K (gm X) M H v d) (e : seqOf d = some xs) : ∃ (k : Sk) (a : Addr) (ys : List V), v = .ref a ∧ k.sq X.K H a ys ∧ RpA X.K (gm X) (hid M H) ys xs ∧ (kind d = 1 ∨ kind d = 2) ∧ ∃ o, H a = some o ∧ ∀ H', H' a = some o → k.sq X.K H' a ys := by
  cases d with
  | list ds =>
    cases e
    obtain ⟨p, ys, rfl, hp, h1⟩ := h.lst
    exact ⟨.l, p, ys, rfl, SqL.of hp, h1, .inl rfl, _, hp, fun H' h => SqL.of h⟩
  | tuple ds =>
    cases e
    obtain ⟨p, ys, o, rfl, hp, _, h1⟩ := h.tup
    exact ⟨.t, p, ys, rfl, .inl (.inr ⟨_, hp⟩), h1, .inr rfl, _, hp, fun H' h => .inl (.inr ⟨_, h⟩)⟩
  | none => cases e
  | bool _ => cases e
  | int _ => cases e
  | str _ => cases e
  | dict _ => cases e
theorem zw_get {xs ys : List D} {i : Nat} {d : D} (h : (List.zipWith (fun x y => PyData.tuple [x, y]) xs ys)[i]? = some d) : ∃ x y, xs[i]? = some x ∧ ys[i]? = some y ∧ d = .tuple [x, y] := by
  rw [List.getElem?_zipWith] at h
  cases h1 : xs[i]? with
  | none => rw [h1] at h; cases h
  | some x =>
    cases h2 : ys[i]? with
    | none => rw [h1, h2] at h; cases h
    | some y =>
      rw [h1, h2] at h
      cases h
      exact ⟨x, y, rfl, rfl, rfl⟩
theorem snd_izip {elts : List Expr} {kk : Nat} {tpos p pos : Pos} {a b : Expr} {c : C} {is : List Nat} (hg : Gl X "zip") (hm : X.mg "zip" = none) (hs : starEach [a, b] X.env = (false, eval a X.env) :: starEach [b] X.env) (hpl : (backTo pos (starEach [b] X.env)).any (·.1) = false) (ha : SndA cx X W [a, b] c) :
    SndI cx X W (.Tuple elts kk tpos) (.t is) (.Call (.Name "zip" p) [a, b] [] pos) .zip c := by
  intro ρ M A σ H R0 rel acc
  refine si_of (pi_zipM hg hm pa_sa hs hpl) (iacc ha rel acc fun rs ds items ρ1 vs H1 M1 A1 e3 hr k => ?_)
  unfold walked at e3
  split at e3 <;> rename_i hw <;> first | (cases hw; done) | skip
  all_goals first | (cases e3; done) | skip
  obtain ⟨xs, ex, e3⟩ := Option.bind_eq_some_iff.mp e3
  obtain ⟨ys, ey, e3⟩ := Option.bind_eq_some_iff.mp e3
  cases e3
  cases hr with
  | cons h1 hr =>
    cases hr with
    | cons h2 hr =>
      cases hr
      obtain ⟨k1, p1, vs1, rfl, q1, r1, t1, o1, g1, w1⟩ := sk_of h1 ex
      obtain ⟨k2, p2, vs2, rfl, q2, r2, t2, o2, g2, w2⟩ := sk_of h2 ey
      refine ⟨k1, k2, p1, p2, vs1, vs2, rfl, q1, q2, k _ ?_⟩
      unfold TW
      rw [List.length_zipWith, ← r1.length, ← r2.length]
      refine (walk_zipM rfl).mono (fun H' hG => ⟨w1 H' (hG p1 _ _ (by simp) t1 g1), w2 H' (hG p2 _ _ (by simp) t2 g2)⟩) fun i H' x H'' hi hG hy => ?_
      obtain ⟨T, x1, y, rfl, hT, rfl, hx1, hx2⟩ := hy
      have ex : Ex H' (upd H' T (.tup [x1, y])) := Ex.new hT
      refine ⟨ex, fun d M' hd hex hmh ds e => ?_⟩
      obtain ⟨d1, d2, hd1, hd2, rfl⟩ := zw_get hd
      cases e
      obtain ⟨v1, hv1, hv2⟩ := r1.get hd1
      obtain ⟨v2, hv3, hv4⟩ := r2.get hd2
      have hx1 : vs1[i]? = some x1 := hx1
      have hx2 : vs2[i]? = some y := hx2
      rw [hx1] at hv1
      cases hv1
      rw [hx2] at hv3
      cases hv3
      exact ⟨T, [x1, y], rfl, SqT.of upd_same, .cons ((hv2.ex hex).ex (Ex.hid ex)) (.cons ((hv4.ex hex).ex (Ex.hid ex)) .nil)⟩
end
end Iv
set_option maxRecDepth 100000
set_option maxHeartbeats 4000000
/-! Iv10: slots set and wiped, targets, list comprehensions. -/
namespace Iv
open PySem PySem.Spec PyProof.Rows L2

/-! ### slots set -/
section
variable {K : PySem.W.Frag} {mg : MG} {M A M1 A1 : Set} {σ : St} {H H1 : Hp} {ρ : Env}
theorem Rel.setFz {i : Nat} {v : V} {d : D} (rel : Rel K mg M A ρ σ H) (h : Rp K mg (hid M H) v d) : Rel K mg M A (ρ.set i (.fz d)) (σ.set i (some v)) H := by
  refine ⟨by simp [rel.len], rel.am, rel.mh, fun j e hj => ?_, fun j e hj => ?_, fun a b d1 d2 q h1 h2 h3 h4 => ?_⟩
  · rw [get_set] at hj
    by_cases hij : i = j ∧ i < ρ.length
    · rw [if_pos hij] at hj
      cases hj
      obtain ⟨rfl, hl⟩ := hij
      exact ⟨v, by rw [List.getElem?_set_self (by rw [← rel.len]; exact hl)], h⟩
    · rw [if_neg hij] at hj
      have hne : i ≠ j := fun e => hij ⟨e, e ▸ get_lt hj (by intro z; cases z)⟩
      rw [List.getElem?_set_ne hne]
      exact rel.fz j e hj
  · rw [get_set] at hj
    by_cases hij : i = j ∧ i < ρ.length
    · rw [if_pos hij] at hj
      cases hj
    · rw [if_neg hij] at hj
      have hne : i ≠ j := fun e => hij ⟨e, e ▸ get_lt hj (by intro z; cases z)⟩
      rw [List.getElem?_set_ne hne]
      exact rel.ow j e hj
  · rw [get_set] at h1 h2
    by_cases ha : i = a ∧ i < ρ.length
    · rw [if_pos ha] at h1; cases h1
    · by_cases hb : i = b ∧ i < ρ.length
      · rw [if_pos hb] at h2; cases h2
      · rw [if_neg ha] at h1
        rw [if_neg hb] at h2
        have na : i ≠ a := fun e => ha ⟨e, e ▸ get_lt h1 (by intro z; cases z)⟩
        have nb : i ≠ b := fun e => hb ⟨e, e ▸ get_lt h2 (by intro z; cases z)⟩
        rw [List.getElem?_set_ne na] at h3
        rw [List.getElem?_set_ne nb] at h4
        exact rel.inj a b _ _ q h1 h2 h3 h4
theorem Rel.setOw {i : Nat} {p : Addr} {d : D} (rel : Rel K mg M A ρ σ H) (hm : M p) (nA : ¬ A p) (ho : Own K mg (hid M H) H p d) :
    Rel K mg M (fun a => a = p ∨ A a) (ρ.set i (.ow d)) (σ.set i (some (.ref p))) H := by
  refine ⟨by simp [rel.len], fun a z => z.elim (fun e => e ▸ hm) (rel.am a), rel.mh, fun j e hj => ?_, fun j e hj => ?_, fun a b d1 d2 q h1 h2 h3 h4 => ?_⟩
  · rw [get_set] at hj
    by_cases hij : i = j ∧ i < ρ.length
    · rw [if_pos hij] at hj
      cases hj
    · rw [if_neg hij] at hj
      have hne : i ≠ j := fun e => hij ⟨e, e ▸ get_lt hj (by intro z; cases z)⟩
      rw [List.getElem?_set_ne hne]
      exact rel.fz j e hj
  · rw [get_set] at hj
    by_cases hij : i = j ∧ i < ρ.length
    · rw [if_pos hij] at hj
      cases hj
      obtain ⟨rfl, hl⟩ := hij
      exact ⟨p, by rw [List.getElem?_set_self (by rw [← rel.len]; exact hl)], .inl rfl, ho⟩
    · rw [if_neg hij] at hj
      have hne : i ≠ j := fun e => hij ⟨e, e ▸ get_lt hj (by intro z; cases z)⟩
      rw [List.getElem?_set_ne hne]
      obtain ⟨q, h1, h2, h3⟩ := rel.ow j e hj
      exact ⟨q, h1, .inr h2, h3⟩
  · have key : ∀ {a : Nat} {d1 : D}, get (ρ.set i (.ow d)) a = .ow d1 → (σ.set i (some (.ref p)))[a]? = some (some (.ref q)) → (a = i ∧ q = p) ∨ (i ≠ a ∧ get ρ a = .ow d1 ∧ σ[a]? = some (some (.ref q)) ∧ A q) := fun {a d1} h g => by
      rw [get_set] at h
      by_cases ha : i = a ∧ i < ρ.length
      · obtain ⟨rfl, hl⟩ := ha
        rw [List.getElem?_set_self (by rw [← rel.len]; exact hl)] at g
        cases g
        exact .inl ⟨rfl, rfl⟩
      · rw [if_neg ha] at h
        have na : i ≠ a := fun e => ha ⟨e, e ▸ get_lt h (by intro z; cases z)⟩
        rw [List.getElem?_set_ne na] at g
        obtain ⟨q', g1, g2, g3⟩ := rel.ow a _ h
        rw [g] at g1
        cases g1
        exact .inr ⟨na, h, g, g2⟩
    rcases key h1 h3 with ⟨e1, e2⟩ | ⟨n1, g1, g2, g3⟩
    · rcases key h2 h4 with ⟨e3, e4⟩ | ⟨m1, m2, m3, m4⟩
      · exact e1.trans e3.symm
      · exact absurd (e2 ▸ m4) nA
    · rcases key h2 h4 with ⟨e3, e4⟩ | ⟨m1, m2, m3, m4⟩
      · exact absurd (e4 ▸ g3) nA
      · exact rel.inj a b _ _ q g1 m2 g2 m3

/-! ### slots wiped -/
theorem get_wipeE {is : List Nat} : ∀ {ρ : Env} {j : Nat}, get (wipeE ρ is) j = if j ∈ is then .no else get ρ j := by
  induction is with
  | nil => intro ρ j; simp [wipeE]
  | cons i is ih =>
    intro ρ j
    show get (wipeE (ρ.set i .no) is) j = _
    rw [ih, get_set]
    by_cases h1 : j ∈ is
    · simp [h1]
    · by_cases h2 : i = j
      · subst h2
        by_cases hl : i < ρ.length
        · simp [h1, hl]
        · simp [h1, hl]
          unfold get
          rw [List.getD_eq_getElem?_getD, List.getElem?_eq_none (by omega)]
          rfl
      · have h3 : j ≠ i := fun e => h2 e.symm
        simp [h1, h2, h3]
theorem len_wipeE {is : List Nat} : ∀ {ρ : Env}, (wipeE ρ is).length = ρ.length := by
  induction is with
  | nil => intro ρ; rfl
  | cons i is ih => intro ρ; show (wipeE (ρ.set i .no) is).length = _; rw [ih, List.length_set]
theorem len_backE {is : List Nat} {ρ0 : Env} : ∀ {ρ : Env}, (backE ρ ρ0 is).length = ρ.length := by
  induction is with
  | nil => intro ρ; rfl
  | cons i is ih => intro ρ; show (backE (ρ.set i (get ρ0 i)) ρ0 is).length = _; rw [ih, List.length_set]
theorem get_out {ρ : Env} {j : Nat} (h : ρ.length ≤ j) : get ρ j = .no := by
  unfold get
  rw [List.getD_eq_getElem?_getD, List.getElem?_eq_none h]
  rfl
theorem get_backE {is : List Nat} {ρ0 : Env} : ∀ {ρ : Env} {j : Nat}, ρ.length = ρ0.length → get (backE ρ ρ0 is) j = if j ∈ is then get ρ0 j else get ρ j := by
  induction is with
  | nil => intro ρ j _; simp [backE]
  | cons i is ih =>
    intro ρ j hl
    show get (backE (ρ.set i (get ρ0 i)) ρ0 is) j = _
    rw [ih (by rw [List.length_set]; exact hl), get_set]
    by_cases h1 : j ∈ is
    · simp [h1]
    · by_cases h2 : i = j
      · subst h2
        by_cases hlt : i < ρ.length
        · simp [h1, hlt]
        · have o1 := get_out (ρ := ρ) (j := i) (by omega)
          have o2 := get_out (ρ := ρ0) (j := i) (by omega)
          simp [h1, hlt, o1, o2]
      · have h3 : j ≠ i := fun e => h2 e.symm
        simp [h1, h2, h3]
/-- A without what the slots is own -/
def mns (A : Set) (ρ : Env) (σ : St) (is : List Nat) : Set := fun a => A a ∧ ¬ ∃ i d, i ∈ is ∧ get ρ i = .ow d ∧ σ[i]? = some (some (.ref a))
theorem Rel.wiped {is vs : List Nat} (rel : Rel K mg M A ρ σ H) (hvs : ∀ i ∈ vs, i ∈ is) : Rel K mg M (mns A ρ σ is) (wipeE ρ is) (wipe σ vs) H := by
  have out : ∀ {j : Nat} {x : Slot}, get (wipeE ρ is) j = x → x ≠ .no → j ∉ is ∧ get ρ j = x := fun {j x} h hx => by
    rw [get_wipeE] at h
    by_cases hj : j ∈ is
    · rw [if_pos hj] at h; exact absurd h.symm hx
    · rw [if_neg hj] at h; exact ⟨hj, h⟩
  have wo : ∀ {j : Nat}, j ∉ is → (wipe σ vs)[j]? = σ[j]? := fun {j} h => wipe_out fun z => h (hvs j z)
  refine ⟨by rw [len_wipeE, wipe_length, rel.len], fun a z => rel.am a z.1, rel.mh, fun j e hj => ?_, fun j e hj => ?_, fun a b d1 d2 q h1 h2 h3 h4 => ?_⟩
  · obtain ⟨n, g⟩ := out hj (by intro z; cases z)
    rw [wo n]
    exact rel.fz j e g
  · obtain ⟨n, g⟩ := out hj (by intro z; cases z)
    rw [wo n]
    obtain ⟨q, q1, q2, q3⟩ := rel.ow j e g
    refine ⟨q, q1, ⟨q2, ?_⟩, q3⟩
    rintro ⟨i, d, hi, gi, si⟩
    exact n (rel.inj i j d e q gi g si q1 ▸ hi)
  · obtain ⟨n1, g1⟩ := out h1 (by intro z; cases z)
    obtain ⟨n2, g2⟩ := out h2 (by intro z; cases z)
    rw [wo n1] at h3
    rw [wo n2] at h4
    exact rel.inj a b _ _ q g1 g2 h3 h4
/-- back -/
theorem Rel.back {is vs : List Nat} {ρ2 : Env} {M2 A2 Ms : Set} {H2 : Hp} (rel : Rel K mg M A ρ σ H) (hvs : ∀ i ∈ vs, i ∈ is) (s : Stp M (mns A ρ σ is) H M2 A2 H2) (hs : ∀ a, M2 a → Ms a) (ex : Ex (hid M H) (hid Ms H2)) (r2 : Rel K mg Ms A2 ρ2 (wipe σ vs) H2) :
    ∃ A3, Stp M A H M2 A3 H2 ∧ Rel K mg Ms A3 (backE ρ2 ρ is) σ H2 ∧ ∀ a, A3 a → A2 a ∨ A a ∧ ¬ mns A ρ σ is a := by
  have rem : ∀ {i : Nat} {d : D} {a : Addr}, i ∈ is → get ρ i = .ow d → σ[i]? = some (some (.ref a)) → ¬ mns A ρ σ is a := fun {i d a} h g e z => z.2 ⟨i, d, h, g, e⟩
  have hl : ρ2.length = ρ.length := by rw [r2.len, wipe_length, rel.len]
  have wo : ∀ {j : Nat} {v : V}, (wipe σ vs)[j]? = some (some v) → σ[j]? = some (some v) := fun h => (wipe_some h).1
  refine ⟨fun a => A2 a ∨ A a ∧ ¬ mns A ρ σ is a, ⟨s.sub, fun a z n => s.keep a z fun q => n q.1, fun a z => z.elim (fun q => (s.subA a q).1) (·.1), fun a o n e => s.fr a o (fun q => n q.1) e, s.th⟩,
    ⟨by rw [len_backE, hl, rel.len], fun a z => z.elim (r2.am a) fun q => hs a (s.keep a (rel.am a q.1) q.2), r2.mh, fun j e hj => ?_, fun j e hj => ?_, fun a b d1 d2 q h1 h2 h3 h4 => ?_⟩, fun a z => z⟩
  · rw [get_backE hl] at hj
    by_cases h : j ∈ is
    · rw [if_pos h] at hj
      obtain ⟨v, h1, h2⟩ := rel.fz j e hj
      exact ⟨v, h1, h2.ex ex⟩
    · rw [if_neg h] at hj
      obtain ⟨v, h1, h2⟩ := r2.fz j e hj
      exact ⟨v, wo h1, h2⟩
  · rw [get_backE hl] at hj
    by_cases h : j ∈ is
    · rw [if_pos h] at hj
      obtain ⟨q, h1, h2, h3⟩ := rel.ow j e hj
      have nq := rem h hj h1
      obtain ⟨u, hu⟩ := h3.there
      exact ⟨q, h1, .inr ⟨h2, nq⟩, h3.ex ex ((s.fr q u nq hu).trans hu.symm)⟩
    · rw [if_neg h] at hj
      obtain ⟨q, h1, h2, h3⟩ := r2.ow j e hj
      exact ⟨q, wo h1, .inl h2, h3⟩
  · rw [get_backE hl] at h1 h2
    by_cases ha : a ∈ is
    · rw [if_pos ha] at h1
      by_cases hb : b ∈ is
      · rw [if_pos hb] at h2
        exact rel.inj a b _ _ q h1 h2 h3 h4
      · rw [if_neg hb] at h2
        obtain ⟨q', g1, g2, g3⟩ := r2.ow b _ h2
        have e := wo g1
        rw [h4] at e
        cases e
        exact absurd (s.subA q g2) (rem ha h1 h3)
    · rw [if_neg ha] at h1
      obtain ⟨q', g1, g2, g3⟩ := r2.ow a _ h1
      have e := wo g1
      rw [h3] at e
      cases e
      by_cases hb : b ∈ is
      · rw [if_pos hb] at h2
        exact absurd (s.subA q g2) (rem hb h2 h4)
      · rw [if_neg hb] at h2
        obtain ⟨q', g4, g5, g6⟩ := r2.ow b _ h2
        have e := wo g4
        rw [h4] at e
        cases e
        exact r2.inj a b _ _ q h1 h2 g1 g4

/-! ### targets -/
def gNs : List Nat → TGs
  | [] => gNil
  | i :: is => gCons (gName i) (gNs is)
def gT (K : PySem.W.Frag) : Tg → TG
  | .n i => gName i
  | .t is => gTup K is.length (gNs is)
def tgs : Tg → List Nat
  | .n i => [i]
  | .t is => is
def setV (σ : St) : List Nat → List V → St
  | i :: is, v :: vs => setV (σ.set i (some v)) is vs
  | _, _ => σ
theorem gNs_ok {k : St → Hp → Prop} : ∀ {is : List Nat} {vs : List V} {ds : List D} {ρ ρ' : Env} {σ : St}, Rel K mg M A ρ σ H → RpA K mg (hid M H) vs ds → setAll ρ is ds = some ρ' →
    (∀ σ', Rel K mg M A ρ' σ' H → (∃ us, σ' = setV σ is us) → k σ' H) → gNs is vs σ H k ∧ is.length = vs.length
  | [], _, _, _, _, _, rel, .nil, e, hk => by
    cases e
    exact ⟨⟨rfl, hk _ rel ⟨[], rfl⟩⟩, rfl⟩
  | i :: is, v :: vs, _, ρ, _, σ, rel, .cons h hr, e, hk => by
    obtain ⟨q1, q2⟩ := gNs_ok (is := is) (rel.setFz (i := i) h) hr e fun σ' r' ⟨us, e'⟩ => hk σ' r' ⟨v :: us, e'⟩
    exact ⟨⟨v, vs, rfl, q1⟩, by simp [q2]⟩
  | [], _, _, _, _, _, _, .cons _ _, e, _ => by cases e
  | _ :: _, _, _, _, _, _, _, .nil, e, _ => by cases e
theorem gT_ok {tg : Tg} {v : V} {x : D} {ρ' : Env} {k : St → Hp → Prop} (rel : Rel K mg M A ρ σ H) (hb : BndOk K mg M H v x tg) (e : bindT ρ tg x = some ρ')
    (hk : ∀ σ', Rel K mg M A ρ' σ' H → (∃ us, σ' = setV σ (tgs tg) us) → k σ' H) : gT K tg v σ H k := by
  cases tg with
  | n i =>
    cases e
    exact hk _ (rel.setFz hb) ⟨[v], rfl⟩
  | t is =>
    cases x with
    | tuple ds =>
      obtain ⟨a, vs, rfl, h1, h2⟩ := hb ds rfl
      obtain ⟨q1, q2⟩ := gNs_ok rel h2 e hk
      exact ⟨a, vs, rfl, h1, q2.symm, q1⟩
    | none => cases e
    | bool _ => cases e
    | int _ => cases e
    | str _ => cases e
    | list _ => cases e
    | dict _ => cases e
theorem wipe_set {i : Nat} {x : Option V} : ∀ {vs : List Nat}, i ∈ vs → wipe (σ.set i x) vs = wipe σ vs := by
  intro vs h
  apply List.ext_getElem?
  intro j
  have len : (wipe (σ.set i x) vs).length = (wipe σ vs).length := by rw [wipe_length, wipe_length, List.length_set]
  by_cases hj : j ∈ vs
  · have none_of : ∀ τ : St, (wipe τ vs)[j]? = if j < τ.length then some none else none := by
      intro τ
      cases e : (wipe τ vs)[j]? with
      | none =>
        rw [List.getElem?_eq_none_iff, wipe_length] at e
        rw [if_neg (by omega)]
      | some y =>
        have hl := (List.getElem?_eq_some_iff.mp e).1
        rw [wipe_length] at hl
        rw [if_pos hl]
        cases y with
        | none => rfl
        | some z => exact absurd hj (wipe_some e).2
    rw [none_of, none_of, List.length_set]
  · rw [wipe_out hj, wipe_out hj, List.getElem?_set_ne]
    exact fun e => hj (e ▸ h)
theorem wipe_setV {vs : List Nat} : ∀ {is : List Nat} {us : List V} {σ : St}, (∀ i ∈ is, i ∈ vs) → wipe (setV σ is us) vs = wipe σ vs
  | [], us, σ, _ => by cases us <;> rfl
  | i :: is, [], σ, _ => rfl
  | i :: is, u :: us, σ, h => by
    show wipe (setV (σ.set i (some u)) is us) vs = _
    rw [wipe_setV fun j hj => h j (List.mem_cons_of_mem _ hj), wipe_set (h i List.mem_cons_self)]
theorem wipe_wipe {vs : List Nat} : wipe (wipe σ vs) vs = wipe σ vs := by
  have go : ∀ us : List Nat, (∀ i ∈ us, i ∈ vs) → wipe (wipe σ us) vs = wipe σ vs := by
    intro us
    induction us with
    | nil => intro _; rfl
    | cons u us ih =>
      intro h
      show wipe ((wipe σ us).set u none) vs = _
      rw [wipe_set (h u List.mem_cons_self)]
      exact ih fun j hj => h j (List.mem_cons_of_mem _ hj)
  exact go vs fun _ h => h
theorem setV_out {j : Nat} : ∀ {is : List Nat} {us : List V} {σ : St}, j ∉ is → (setV σ is us)[j]? = σ[j]?
  | [], us, σ, _ => by cases us <;> rfl
  | i :: is, [], σ, _ => rfl
  | i :: is, u :: us, σ, h => by
    show (setV (σ.set i (some u)) is us)[j]? = _
    rw [setV_out fun hj => h (List.mem_cons_of_mem _ hj), List.getElem?_set_ne]
    exact fun e => h (e ▸ List.mem_cons_self)
end
end Iv
set_option maxRecDepth 100000
set_option maxHeartbeats 4000000
/-! Iv11: list comprehensions. -/
namespace Iv
open PySem PySem.Spec PyProof.Rows L2

def WNo : Wish := fun _ _ _ => False
def STs (X : Cx) (ifs : List Expr) : TT := fun σ H Q => ∀ pins s, Inv X pins σ H s →
  wpAny (model X.prog X.w) X.A (forIn ifs true fun c r => if r = true then do let ok ← isTrue c X.env (eval c X.env); pure (ForInStep.yield ok) else pure (ForInStep.yield r)) (TP X pins σ Q) X.xe s
theorem pts_sts {X : Cx} {ifs : List Expr} : PTs X ifs (STs X ifs) := ⟨fun pins s σ H Q I h => h pins s I⟩
theorem sts_of {X : Cx} {ifs : List Expr} {t : TT} (h : PTs X ifs t) {σ : St} {H : Hp} {Q : Bool → Hp → Prop} (q : t σ H Q) : STs X ifs σ H Q := fun pins s I => h.run pins s σ H Q I q
def SndTs (cx : Ctx) (X : Cx) (W : Wish) (ifs : List Expr) (c : C) : Prop := ∀ ρ M A σ H Q, Rel X.K (gm X) M A ρ σ H → AccT X W M A σ H (ev cx c ρ) Q → STs X ifs σ H Q
section
variable {X : Cx} {W : Wish} {M A M1 A1 : Set} {σ : St} {H H1 : Hp} {cx : Ctx} {ρ : Env}
theorem sndTs_nil : SndTs cx X W [] (.k (.bool true)) := fun ρ M A σ H Q rel acc => sts_of pts_nil (acc true H M A rfl .refl rel)
theorem sndTs_one {e : Expr} {c : C} (h : SndT cx X W e c) : SndTs cx X W [e] c := fun ρ M A σ H Q rel acc => sts_of (pts_one pt_st) (h ρ M A σ H Q rel acc)

theorem Stp.widen {D : Addr} (s : Stp M A H M1 A1 H1) : Stp M (fun a => a = D ∨ A a) H M1 (fun a => a = D ∨ A1 a) H1 :=
  ⟨s.sub, fun a z n => s.keep a z fun q => n (.inr q), fun a z => z.imp id (s.subA a), fun a o n e => s.fr a o (fun q => n (.inr q)) e, s.th⟩
theorem Stp.wr {D : Addr} {o : HO} (h : A D) (e : ∃ u, H D = some u) : Stp M A H M A (upd H D o) := by
  refine ⟨fun _ z => z, fun _ z _ => z, fun _ z => z, fun a u n q => ?_, fun a u q => ?_⟩
  · rw [upd_ne]
    · exact q
    · rintro rfl
      exact n h
  · by_cases ha : a = D
    · subst ha
      exact ⟨_, upd_same⟩
    · exact ⟨u, by rw [upd_ne ha]; exact q⟩
/-- what the hidden D holds plays no part -/
theorem Rel.upD {D : Addr} {o : HO} (rel : Rel X.K (gm X) M A ρ σ H) (hD : M D) (nD : ¬ A D) : Rel X.K (gm X) M A ρ σ (upd H D o) := by
  have ex : Ex (hid M H) (hid M (upd H D o)) := hid_mono (fun _ z => z) fun a u n e => by
    rw [upd_ne (fun z => n (by rw [z]; exact hD))]
    exact e
  refine ⟨rel.len, rel.am, fun a z => ?_, fun j e hj => ?_, fun j e hj => ?_, rel.inj⟩
  · by_cases ha : a = D
    · subst ha
      exact ⟨_, upd_same⟩
    · obtain ⟨u, hu⟩ := rel.mh a z
      exact ⟨u, by rw [upd_ne ha]; exact hu⟩
  · obtain ⟨v, h1, h2⟩ := rel.fz j e hj
    exact ⟨v, h1, h2.ex ex⟩
  · obtain ⟨q, h1, h2, h3⟩ := rel.ow j e hj
    exact ⟨q, h1, h2, h3.ex ex (upd_ne fun z => nD (z ▸ h2))⟩
theorem hid_upD {D : Addr} {o : HO} (hD : M D) : Ex (hid M H) (hid M (upd H D o)) := hid_mono (fun _ z => z) fun a u n e => by
  rw [upd_ne (fun z => n (by rw [z]; exact hD))]
  exact e
/-- D shown -/
theorem Rel.show (rel : Rel X.K (gm X) M A ρ σ H) {D : Addr} (nD : ¬ A D) : Rel X.K (gm X) (fun a => M a ∧ a ≠ D) A ρ σ H := by
  have ex : Ex (hid M H) (hid (fun a => M a ∧ a ≠ D) H) := hid_mono (fun _ z => z.1) fun _ _ _ e => e
  refine ⟨rel.len, fun a z => ⟨rel.am a z, fun e => nD (e ▸ z)⟩, fun a z => rel.mh a z.1, fun j e hj => ?_, fun j e hj => ?_, rel.inj⟩
  · obtain ⟨v, h1, h2⟩ := rel.fz j e hj
    exact ⟨v, h1, h2.ex ex⟩
  · obtain ⟨q, h1, h2, h3⟩ := rel.ow j e hj
    exact ⟨q, h1, h2, h3.ex ex rfl⟩
theorem noEr_ok {α : Type} {r : R α} {a : α} (h : noEr r = .ok a) : r = .ok a := by
  cases r <;> first | exact h | cases h
theorem mem_lent : ∀ {rs : List Rv} {i : Nat}, Rv.o i ∈ rs → i ∈ lent rs
  | .o j :: rs, i, h => by
    rcases List.mem_cons.mp h with e | h
    · cases e; exact List.mem_cons_self
    · exact List.mem_cons_of_mem _ (mem_lent h)
  | .d _ :: rs, i, h | .f _ :: rs, i, h | .l _ :: rs, i, h => by
    rcases List.mem_cons.mp h with e | h
    · cases e
    · exact mem_lent (rs := rs) h

/-- one turn -/
theorem lc_turn {tg : Tg} {own : List Nat} {test elt : Env → R (Rv × Env)} {d : D} {xs ys accD : List D} {ρF : Env} (h : lcGo test elt tg own (d :: xs) ρ accD = .ok (ys, ρF)) :
    ∃ ρ1 b ρ2, bindT ρ tg d = some ρ1 ∧ (∃ r, test ρ1 = .ok (r, ρ2) ∧ read ρ2 r = some (.bool b)) ∧
      (b = true → ∃ y ρ3 z ρ4, elt ρ2 = .ok (y, ρ3) ∧ esc ρ3 y = some (z, ρ4) ∧ lcGo test elt tg own xs (wipeE ρ4 own) (z :: accD) = .ok (ys, ρF)) ∧
      (b = false → lcGo test elt tg own xs (wipeE ρ2 own) accD = .ok (ys, ρF)) := by
  unfold lcGo at h
  cases h1 : bindT ρ tg d with
  | none => rw [h1] at h; cases h
  | some ρ1 =>
    rw [h1, got_some] at h
    cases h2 : test ρ1 with
    | no => rw [h2] at h; cases h
    | er x => rw [h2] at h; cases h
    | ok p =>
      obtain ⟨r, ρ2⟩ := p
      rw [h2, R.bd_ok] at h
      cases h3 : boolOf ρ2 r with
      | none => rw [h3] at h; cases h
      | some b =>
        rw [h3, got_some] at h
        refine ⟨ρ1, b, ρ2, rfl, ⟨r, h2, boolOf_eq h3⟩, fun hb => ?_, fun hb => ?_⟩
        · subst hb
          cases h4 : elt ρ2 with
          | no => rw [h4] at h; cases h
          | er x => rw [h4] at h; cases h
          | ok p =>
            obtain ⟨y, ρ3⟩ := p
            rw [h4] at h
            simp only [R.bd_ok] at h
            cases h5 : esc ρ3 y with
            | none => rw [h5] at h; cases h
            | some q =>
              rw [h5] at h
              exact ⟨y, ρ3, q.1, q.2, rfl, h5, h⟩
        · subst hb
          exact h
theorem Rel.wipeJust {is : List Nat} (rel : Rel X.K (gm X) M A ρ σ H) : Rel X.K (gm X) M A (wipeE ρ is) (wipe σ is) H := by
  have r := rel.wiped (is := is) (vs := is) fun _ h => h
  exact ⟨r.len, rel.am, rel.mh, r.fz, fun i d g => let ⟨p, h1, h2, h3⟩ := r.ow i d g; ⟨p, h1, h2.1, h3⟩, r.inj⟩

theorem rp_solid {a : Addr} {d : D} (h : Rp X.K (gm X) (hid M H) (.ref a) d) (hk : kind d = 1 ∨ kind d = 2) : ¬ M a := by
  cases h with
  | lst h _ => exact (hid_some.mp h).1
  | tup h _ _ => exact (hid_some.mp h).1
  | dK h _ => simp [kind] at hk
  | dT h _ _ => simp [kind] at hk
  | fn h => simp [kind, fnD] at hk
  | scr h => simp [kind, scrD] at hk
theorem zip_rv {rs : List Rv} {us : List V} {ds : List D} {H0 : Hp} {v : V} {d : D} (h : RvsOk X.K (gm X) M σ H0 H rs us) (e : reads ρ rs = some ds) (hm : (v, d) ∈ us.zip ds) : ∃ rv, rv ∈ rs ∧ RvOk X.K (gm X) M σ H0 H rv v ∧ read ρ rv = some d := by
  induction h generalizing ds with
  | nil => cases hm
  | cons h hr ih =>
    simp only [reads] at e
    obtain ⟨d1, h1, e⟩ := Option.bind_eq_some_iff.mp e
    obtain ⟨ds1, h2, e⟩ := Option.bind_eq_some_iff.mp e
    cases e
    rw [List.zip_cons_cons] at hm
    rcases List.mem_cons.mp hm with e | hm
    · cases e
      exact ⟨_, List.mem_cons_self, h, h1⟩
    · obtain ⟨rv, q1, q2, q3⟩ := ih h2 hm
      exact ⟨rv, List.mem_cons_of_mem _ q1, q2, q3⟩
theorem lc_go {cx : Ctx} {tge iter : Expr} {tg : Tg} {w : Wk} {cit celt cifs : C} {own : List (Str × Nat)} {Q : VK}
    (hi : SndI cx X W tge tg iter w cit) (htg : ∀ i ∈ tgs tg, i ∈ own.map (·.2)) {X' : Cx} {tt : TT} {te : TE} (hK : X'.K = X.K) (hm : gm X' = gm X)
    (ht : ∀ ρ M A σ H Q, Rel X.K (gm X) M A ρ σ H → AccT X' WNo M A σ H (ev cx cifs ρ) Q → tt σ H Q) (he : ∀ ρ M A σ H Q, Rel X.K (gm X) M A ρ σ H → AccE X' WNo M A σ H (ev cx celt ρ) Q → te σ H Q)
    (rel : Rel X.K (gm X) M A ρ σ H) (acc : AccE X W M A σ H (ev cx (.lc (own.map (·.2)) celt tg w cit cifs) ρ) Q) : tLc (SIt X tge iter) (gT X.K tg) tt te (own.map (·.2)) σ H Q := by
  generalize hvs : own.map (·.2) = vs at htg acc ⊢
  refine hi ρ M A σ H _ rel ?_
  have acc : AccE X W M A σ H ((ev cx cit ρ).bd fun x ρ1 => got (listOf x) fun rs => got (reads ρ1 rs) fun ds => got (walked w ds) fun items =>
      if items.length ≤ big then
        (noEr (lcGo (ev cx cifs) (ev cx celt) tg vs items (wipeE (wipeE ρ1 (lent rs)) vs) [])).bd fun ds ρ2 => .ok (.f (.list ds), backE (backE ρ2 ρ1 vs) ρ1 (lent rs))
      else .no) Q := acc
  cases g : ev cx cit ρ with
  | no => rw [g] at acc; exact acc
  | er x => rw [g] at acc; exact acc
  | ok pr =>
    obtain ⟨r, ρ1⟩ := pr
    rw [g, R.bd_ok] at acc
    obtain ⟨rs, e1, accA⟩ := acc.of
    obtain ⟨ds, e2, accB⟩ := accA.of
    obtain ⟨items, e3, accC⟩ := accB.of
    clear acc accA accB
    by_cases hlen : items.length ≤ big
    · rw [if_pos hlen] at accC
      have er : r = .l rs := by
        unfold listOf at e1
        split at e1 <;> cases e1
        rfl
      subst er
      refine ⟨rs, ds, items, rfl, e2, e3, fun us H1 M1 A1 J s1 r1 h1 tw => ?_⟩
      have acc := accC.step s1
      clear accC
      cases hgo : noEr (lcGo (ev cx cifs) (ev cx celt) tg vs items (wipeE (wipeE ρ1 (lent rs)) vs) []) with
      | no => rw [hgo] at acc; exact acc.elim
      | er x =>
        exfalso
        unfold noEr at hgo
        split at hgo <;> cases hgo
      | ok pF =>
        obtain ⟨dsF, ρF⟩ := pF
        rw [hgo, R.bd_ok] at acc
        have hgo := noEr_ok hgo
        intro Dn hDn
        -- the hidden ones, with the new list; the slots wiped
        generalize his : lent rs ++ vs = is at *
        have hwe : wipeE (wipeE ρ1 (lent rs)) vs = wipeE ρ1 is := by rw [← his]; unfold wipeE; rw [List.foldl_append]
        have hbk : ∀ ρ2 : Env, ρ2.length = ρ1.length → backE (backE ρ2 ρ1 vs) ρ1 (lent rs) = backE ρ2 ρ1 (vs ++ lent rs) := fun ρ2 _ => by unfold backE; rw [List.foldl_append]
        have hvi : ∀ i ∈ vs, i ∈ is := fun i h => by rw [← his]; exact List.mem_append_right _ h
        have nMD : ¬ M1 Dn := nm_of r1 hDn
        have rA := r1.newM (o := .lst []) hDn
        have rB := rA.wiped (is := is) (vs := vs) hvi
        generalize hM1' : (fun a => a = Dn ∨ M1 a) = M1' at rA rB
        have hMD : M1' Dn := by rw [← hM1']; exact .inl rfl
        have nAD : ¬ mns A1 ρ1 σ is Dn := fun z => nMD (r1.am _ z.1)
        -- what is walked stays
        have solid : ∀ a d, (V.ref a, d) ∈ us.zip ds → kind d = 1 ∨ kind d = 2 → ¬ mns A1 ρ1 σ is a := by
          intro a d hmem hk z
          obtain ⟨rv, hrv, hok, hrd⟩ := zip_rv h1 e2 hmem
          cases rv with
          | d d' =>
            cases hrd
            exact rp_solid hok hk (r1.am a z.1)
          | f d' =>
            obtain ⟨p, e, _, nm, _⟩ := hok
            cases e
            exact nm (r1.am _ z.1)
          | l _ => cases hrd
          | o i =>
            have hs : σ[i]? = some (some (.ref a)) := hok
            simp only [read] at hrd
            cases gi : get ρ1 i with
            | no => rw [gi] at hrd; cases hrd
            | fz d' =>
              rw [gi] at hrd
              cases hrd
              obtain ⟨v, q1, q2⟩ := r1.fz i _ gi
              rw [hs] at q1
              cases q1
              exact rp_solid q2 hk (r1.am a z.1)
            | ow d' => exact z.2 ⟨i, d', by rw [← his]; exact List.mem_append_left _ (mem_lent hrv), gi, hs⟩
        have stay : ∀ {Mi Ai : Set} {H' : Hp}, Stp M1' (fun a => a = Dn ∨ mns A1 ρ1 σ is a) (upd H1 Dn (.lst [])) Mi (fun a => a = Dn ∨ Ai a) H' → ∀ a d o, (V.ref a, d) ∈ us.zip ds → kind d = 1 ∨ kind d = 2 → H1 a = some o → H' a = some o := fun {Mi Ai H'} st a d o hm hk ho => by
          have hne : a ≠ Dn := ne_of_none ho hDn
          refine st.fr a o ?_ (by rw [upd_ne hne]; exact ho)
          rintro (z | z)
          · exact hne z
          · exact solid a d hm hk z
        have ex1 : Ex (hid M1 H1) (hid M1' (upd H1 Dn (.lst []))) := by rw [← hM1']; exact hid_new hDn
        refine lc_it (G := fun H' => ∀ a d o, (V.ref a, d) ∈ us.zip ds → kind d = 1 ∨ kind d = 2 → H1 a = some o → H' a = some o) tw
          (fun i H' => ∃ ρi Mi Ai xs accD, Rel X.K (gm X) Mi Ai ρi (wipe σ vs) H' ∧ Stp M1' (fun a => a = Dn ∨ mns A1 ρ1 σ is a) (upd H1 Dn (.lst [])) Mi (fun a => a = Dn ∨ Ai a) H' ∧ H' Dn = some (.lst xs) ∧ Mi Dn ∧ ¬ Ai Dn ∧ RpA X.K (gm X) (hid Mi H') xs accD.reverse ∧ xs.length ≤ i ∧
            lcGo (ev cx cifs) (ev cx celt) tg vs (items.drop i) ρi accD = .ok (dsF, ρF))
          ⟨wipeE ρ1 is, M1', mns A1 ρ1 σ is, [], [], rB, .refl, upd_same, hMD, nAD, .nil, Nat.le_refl _, by rw [List.drop_zero, ← hwe]; exact hgo⟩ ?_ ?_ ?_
        · rintro i H' hi ⟨ρi, Mi, Ai, xs, accD, _, st, _⟩
          exact stay st
        · rintro i x H' H'' hi ⟨ρi, Mi, Ai, xs, accD, ri, st, hD, mD, nD, hx, hxl, go⟩ ⟨exT, hb⟩
          obtain ⟨d, hd⟩ : ∃ d, items[i]? = some d := ⟨items[i], by simp [hi]⟩
          have hdr : items.drop i = d :: items.drop (i + 1) := by
            obtain ⟨hlt, e⟩ := List.getElem?_eq_some_iff.mp hd
            rw [List.drop_eq_getElem_cons hlt, e]
          rw [hdr] at go
          obtain ⟨ρb, b, ρt, hbind, ⟨rt, htest, hrt⟩, kt, kf⟩ := lc_turn go
          have exi : Ex (hid M1 H1) (hid Mi H') := ex1.trans (st.ex fun a z => z.elim (fun e => by rw [e]; exact hMD) fun z => rA.am a (by exact z.1) |> fun q => by rw [← hM1']; rw [← hM1'] at q; exact q)
          have bok := hb d Mi hd exi ri.mh
          have ri' := ri.ex exT
          have st' : Stp M1' (fun a => a = Dn ∨ mns A1 ρ1 σ is a) (upd H1 Dn (.lst [])) Mi (fun a => a = Dn ∨ Ai a) H'' := st.trans (.of_ex exT)
          refine gT_ok ri' bok hbind fun σ2 r2 ⟨vv, e2'⟩ => ?_
          have hw2 : wipe σ2 vs = wipe σ vs := by rw [e2', wipe_setV htg, wipe_wipe]
          refine ⟨hw2, ?_⟩
          refine ht ρb Mi Ai σ2 H'' _ r2 ?_
          rw [htest]
          intro b' H3 M3 A3 eb s3 r3
          rw [hK, hm] at r3
          subst eb
          have hbb : b = b' := by
            have : some (PyData.bool b') = some (.bool b) := hrt
            cases this
            rfl
          subst hbb
          have D3 : H3 Dn = some (.lst xs) := s3.fr Dn _ nD (exT _ _ hD)
          have mD3 : M3 Dn := s3.keep Dn mD nD
          have nD3 : ¬ A3 Dn := fun z => nD (s3.subA _ z)
          have st3 := st'.trans s3.widen
          have hx3 : RpA X.K (gm X) (hid M3 H3) xs accD.reverse := (hx.ex (Ex.hid exT)).ex (s3.ex ri'.am)
          cases b with
          | false =>
            rw [if_neg (by decide)]
            have r4 := r3.wipeJust (is := vs)
            rw [hw2] at r4
            exact ⟨_, M3, A3, xs, accD, r4, st3, D3, mD3, nD3, hx3, by omega, kf rfl⟩
          | true =>
            rw [if_pos rfl]
            obtain ⟨y, ρ3, z, ρ4, helt, hesc, go'⟩ := kt rfl
            refine he ρt M3 A3 σ2 H3 _ r3 ?_
            rw [helt]
            intro v H4 M4 A4 s4 r4 h4
            rw [hK, hm] at r4 h4
            replace r4 := r4.weak h4
            obtain ⟨M5, A5, s5, r5, h5⟩ := esc_ok r4 h4 hesc
            have s45 := s4.trans s5
            have D5 : H4 Dn = some (.lst xs) := s45.fr Dn _ nD3 D3
            have mD5 : M5 Dn := s45.keep Dn mD3 nD3
            have nD5 : ¬ A5 Dn := fun z => nD3 (s45.subA _ z)
            have st5 := st3.trans s45.widen
            have hx5 : RpA X.K (gm X) (hid M5 H4) xs accD.reverse := hx3.ex (s45.ex r3.am)
            have r6 := (r5.upD (o := .lst (xs ++ [v])) mD5 nD5).wipeJust (is := vs)
            rw [hw2] at r6
            refine ⟨xs, D5, Nat.lt_of_le_of_lt hxl (Nat.lt_of_lt_of_le hi (bigL hlen)), _, M5, A5, xs ++ [v], z :: accD, r6, st5.trans (.wr (.inl rfl) ⟨_, D5⟩), upd_same, mD5, nD5, ?_, by rw [List.length_append]; simp; exact hxl, go'⟩
            rw [List.reverse_cons]
            exact ((hx5.append (.cons h5 .nil)).ex (hid_upD mD5))
        · rintro H' ⟨ρi, Mi, Ai, xs, accD, ri, st, hD, mD, nD, hx, hxl, go⟩
          rw [List.drop_length] at go
          cases go
          have mm : ∀ a, (Mi a ∧ a ≠ Dn) → M1 a := fun a z => by
            have := st.sub a z.1
            rw [← hM1'] at this
            exact this.resolve_left z.2
          have s7 : Stp M1 (mns A1 ρ1 σ is) H1 (fun a => Mi a ∧ a ≠ Dn) Ai H' := by
            have ne : ∀ a o, H1 a = some o → a ≠ Dn := fun a o h => ne_of_none h hDn
            refine ⟨mm, fun a z n => ⟨st.keep a (by rw [← hM1']; exact .inr z) ?_, ?_⟩, fun a z => (st.subA a (.inr z)).resolve_left fun e => nD (e ▸ z), fun a o n e => st.fr a o ?_ (by rw [upd_ne (ne a o e)]; exact e), fun a o e => st.th a o (by rw [upd_ne (ne a o e)]; exact e)⟩
            · rintro (e | q)
              · exact nMD (e ▸ z)
              · exact n q
            · rintro rfl
              exact nMD z
            · rintro (e' | q)
              · exact ne a o e e'
              · exact n q
          have hvi2 : ∀ i ∈ vs, i ∈ vs ++ lent rs := fun i h => List.mem_append_left _ h
          have emn : mns A1 ρ1 σ is = mns A1 ρ1 σ (vs ++ lent rs) := by
            funext a
            unfold mns
            rw [← his]
            simp only [List.mem_append, Or.comm]
          rw [emn] at s7
          have exi : Ex (hid M1 H1) (hid Mi H') := ex1.trans (st.ex fun a z => z.elim (fun e => by rw [e]; exact hMD) fun z => rB.am a z)
          obtain ⟨A3, s8, r8, hA3⟩ := r1.back hvi2 s7 (fun a z => z.1) exi ri
          have el : ρF.length = ρ1.length := by rw [ri.len, wipe_length, r1.len]
          rw [hbk _ el] at acc
          have nA3 : ¬ A3 Dn := fun z => nMD (r1.am _ (s8.subA _ z))
          refine acc _ H' _ A3 s8 ⟨Dn, rfl, nA3, ?_⟩ ⟨Dn, rfl, hDn, fun z => z.2 rfl, xs, hD, hx.ex (hid_mono (fun a z => z.elim (fun e => by rw [e]; exact mD) (·.1)) fun _ _ _ q => q)⟩
          rw [show (fun a => a = Dn ∨ Mi a ∧ a ≠ Dn) = Mi from funext fun a => propext ⟨fun z => z.elim (fun e => by rw [e]; exact mD) (·.1), fun z => by by_cases e : a = Dn <;> simp [e, z]⟩]
          exact r8
    · rw [if_neg hlen] at accC
      exact accC.elim

/-- the weakest readings of every block at once -/
def tTB (X : Cx) (scope : Scope) (ifs : List Expr) : TT := fun σ H Q => ∀ (s : Shared) (H0 : Hp) (Ca : Addr) (cl : List (Str × Addr)) (fp : List Addr), STs (X.blk s H0 scope (compEnvC scope cl Ca X.env) fp) ifs σ H Q
def tEB (X : Cx) (scope : Scope) (elt : Expr) : TE := fun σ H Q => ∀ (s : Shared) (H0 : Hp) (Ca : Addr) (cl : List (Str × Addr)) (fp : List Addr), SE (X.blk s H0 scope (compEnvC scope cl Ca X.env) fp) elt σ H Q
/-- what holds of a comprehension, as seen from X -/
structure LcOk (cx : Ctx) (X : Cx) (W : Wish) (tge iter elt : Expr) (ifs : List Expr) (tg : Tg) (w : Wk) (cit celt cifs : C) (scope : Scope) (own : List (Str × Nat)) : Prop where
  calm : X.calm = true
  nd : X.N.Nodup
  ok : BlkOk X.N X.env.scope scope own
  hi : SndI cx X W tge tg iter w cit
  htg : ∀ i ∈ tgs tg, i ∈ own.map (·.2)
  hs : ∀ x, foldedSetIterable iter X.env x = pure x
  hg : ∀ (s : Shared) (H : Hp) (Ca : Addr) (cl : List (Str × Addr)) (fp : List Addr), PG (X.blk s H scope (compEnvC scope cl Ca X.env) fp) tge (gT X.K tg)
  ht : ∀ (s : Shared) (H : Hp) (Ca : Addr) (cl : List (Str × Addr)) (fp : List Addr), SndTs cx (X.blk s H scope (compEnvC scope cl Ca X.env) fp) WNo ifs cifs
  he : ∀ (s : Shared) (H : Hp) (Ca : Addr) (cl : List (Str × Addr)) (fp : List Addr), SndE cx (X.blk s H scope (compEnvC scope cl Ca X.env) fp) WNo elt celt
section
variable {tge iter elt : Expr} {ifs : List Expr} {tg : Tg} {w : Wk} {cit celt cifs : C} {scope : Scope} {own : List (Str × Nat)} {pos : Pos}
theorem LcOk.read (L : LcOk cx X W tge iter elt ifs tg w cit celt cifs scope own) {Q : VK} (rel : Rel X.K (gm X) M A ρ σ H) (acc : AccE X W M A σ H (ev cx (.lc (own.map (·.2)) celt tg w cit cifs) ρ) Q) :
    tLc (SIt X tge iter) (gT X.K tg) (tTB X scope ifs) (tEB X scope elt) (own.map (·.2)) σ H Q := by
  refine lc_go (X' := X) L.hi L.htg rfl rfl (fun ρ M A σ H Q rel acc s H0 Ca cl fp => L.ht s H0 Ca cl fp ρ M A σ H Q rel ?_) (fun ρ M A σ H Q rel acc s H0 Ca cl fp => L.he s H0 Ca cl fp ρ M A σ H Q rel ?_) rel acc
  · exact acc
  · exact acc
theorem pts_tb (s : Shared) (H : Hp) (Ca : Addr) (cl : List (Str × Addr)) (fp : List Addr) : PTs (X.blk s H scope (compEnvC scope cl Ca X.env) fp) ifs (tTB X scope ifs) := ⟨fun pins st σ H1 Q I h => h s H Ca cl fp pins st I⟩
theorem pe_eb (s : Shared) (H : Hp) (Ca : Addr) (cl : List (Str × Addr)) (fp : List Addr) : PE (X.blk s H scope (compEnvC scope cl Ca X.env) fp) elt (tEB X scope elt) := ⟨fun pins st σ H1 Q I h => h s H Ca cl fp pins st I⟩
theorem snd_lc (L : LcOk cx X W tge iter elt ifs tg w cit celt cifs scope own) : SndE cx X W (.ListComp elt [⟨tge, iter, ifs, 0⟩] scope pos) (.lc (own.map (·.2)) celt tg w cit cifs) :=
  fun ρ M A σ H Q rel acc => se_of (pe_lc L.calm L.nd pi_si L.ok L.hg pts_tb pe_eb L.hs) (L.read rel acc)
end
end
end Iv
set_option maxRecDepth 100000
set_option maxHeartbeats 4000000
/-! Iv11d: new dicts: displays, dict comprehensions. -/
namespace Iv
open PySem PySem.Spec PyProof.Rows L2

/-- the new dict, as it is told here -/
def conv (X : Cx) (t : TE) : TE := fun σ H Q => t σ H fun v H1 => ∃ p kvs, v = .ref p ∧ H1 p = some (.dK kvs) ∧ ∀ o, Q v (upd H1 p (DKo (gm X) p o kvs))
theorem pe_conv {X : Cx} {e : Expr} {t : TE} (he : PE X e t) : PE X e (conv X t) := by
  refine ⟨fun pins s σ H Q I h => ?_⟩
  refine thn (he.run pins s σ H _ I h) fun v s1 ⟨x, H1, I1, r1, p, kvs, ex, hp, q⟩ => ?_
  subst ex
  obtain ⟨z, hm, vs, kv, o, es, ep, h1, h2, h3, h4, h5, h6⟩ := dk_of I1.hok hp
  exact ⟨.ref p, upd H1 p (DKo (gm X) p o kvs), I1.write (t' := s1.toks) (x := p) (e := p) (by rw [hp]; exact True.intro) (.inl rfl) (fun b q _ e => e) ⟨o, h1⟩ ⟨⟨h1, z, hm, h2, es, ep, vs, h3, kv, h4, h5, h6⟩, ⟨o, h1⟩, fun x1 x2 q1 q2 => ⟨q2 _ q1.1, q1.2⟩⟩, r1, q o⟩
section
variable {X : Cx} {W : Wish} {M A M1 A1 : Set} {σ : St} {H H1 : Hp} {cx : Ctx} {ρ : Env}
/-- a new dict -/
theorem AccE.newD {ds : List (D × D)} {kvs : List (Key × V)} {p : Addr} {o : Obj} {Q : VK} (acc : AccE X W M A σ H (.ok (.f (.dict ds), ρ)) Q) (rel : Rel X.K (gm X) M A ρ σ H) (h : RpP X.K (gm X) (hid M H) (kvs.map fun p => (kD p.1, p.2)) ds) (hp : H p = none) : Q (.ref p) (upd H p (DKo (gm X) p o kvs)) := by
  have ex : Ex H (upd H p (DKo (gm X) p o kvs)) := Ex.new hp
  exact acc _ _ M A (.of_ex ex) ⟨p, rfl, fun z => nm_of rel hp (rel.am p z), rel.newM hp⟩ ⟨p, rfl, hp, nm_of rel hp, .inl ⟨o, kvs, upd_same, h.ex (hid_new hp)⟩⟩
theorem upd_upd {p : Addr} {o o' : HO} : upd (upd H p o) p o' = upd H p o' := by
  funext a
  unfold upd
  split <;> rfl
theorem snd_dnew {pos : Pos} : SndE cx X W (.Dict [] [] pos) (.dic .nil .nil) := by
  intro ρ M A σ H Q rel acc
  refine se_of (pe_conv pe_dnewK) fun p hp => ⟨p, [], rfl, upd_same, fun o => ?_⟩
  rw [upd_upd]
  exact AccE.newD (ds := []) acc rel .nil hp

/-! ### comprehensions -/
theorem dc_it {J : It} {n : Nat} {G : Hp → Prop} {Y : Nat → Hp → V → Hp → Prop} (w : Walk J n G Y) {g : TG} {tt : TT} {tk tv : TE} {vs : List Nat} {σ : St} {H1 : Hp} {D : Addr} {Qd : Hp → Prop} (Pv : Nat → Hp → Prop) (h0 : Pv 0 (upd H1 D (.dK []))) (hG : ∀ i H, i ≤ n → Pv i H → G H)
    (hs : ∀ i x H H', i < n → Pv i H → Y i H x H' → g x (wipe σ vs) H' fun σ2 H2 => wipe σ2 vs = wipe σ vs ∧ tt σ2 H2 fun b H3 =>
      if b = true then tk σ2 H3 fun y H4 => tv σ2 H4 fun z H5 => ∃ kvs k, y = kV k ∧ H5 D = some (.dK kvs) ∧ kvs.length < sizeLine ∧ Pv (i + 1) (upd H5 D (.dK (putK kvs k z))) else Pv (i + 1) H3) (hd : ∀ H, Pv n H → Qd H) :
    ∃ W : Nat → Nat → Hp → Prop, (∃ m, W 0 m (upd H1 D (.dK []))) ∧ ∀ i m H, W i m H →
      (J.stop i H ∧ Qd H) ∨ (J.go i H ∧ ∃ Nx : Hp → Prop, (∀ H', Nx H' → ∃ m', m' < m ∧ W (i + 1) m' H') ∧ ∀ x H', J.yld i H x H' → g x (wipe σ vs) H' fun σ2 H2 => wipe σ2 vs = wipe σ vs ∧ tt σ2 H2 fun b H3 =>
        if b = true then tk σ2 H3 fun y H4 => tv σ2 H4 fun z H5 => ∃ kvs k, y = kV k ∧ H5 D = some (.dK kvs) ∧ kvs.length < sizeLine ∧ Nx (upd H5 D (.dK (putK kvs k z))) else Nx H3) := by
  refine ⟨fun i m H => m = n - i ∧ i ≤ n ∧ Pv i H, ⟨n, by simp, Nat.zero_le _, h0⟩, ?_⟩
  rintro i m H ⟨rfl, hi, p⟩
  have q := hG i H hi p
  by_cases hlt : i < n
  · refine .inr ⟨w.goes i H hlt q, Pv (i + 1), fun H' p' => ⟨n - (i + 1), by omega, rfl, hlt, p'⟩, fun x H' y => hs i x H H' hlt p (w.yields i H x H' hlt q y)⟩
  · have e : i = n := by omega
    subst e
    exact .inl ⟨w.stops H q, hd H p⟩
theorem dc_turn {tg : Tg} {own : List Nat} {key val : Env → R (Rv × Env)} {d : D} {xs : List D} {ys accD : List (D × D)} {ρF : Env} (h : dcGo key val tg own (d :: xs) ρ accD = .ok (ys, ρF)) :
    ∃ ρ1 k ρ2 kd ρ3 v ρ4 vd ρ5, bindT ρ tg d = some ρ1 ∧ key ρ1 = .ok (k, ρ2) ∧ esc ρ2 k = some (kd, ρ3) ∧ val ρ3 = .ok (v, ρ4) ∧ esc ρ4 v = some (vd, ρ5) ∧ key0 kd = true ∧ dcGo key val tg own xs (wipeE ρ5 own) (dput accD kd vd) = .ok (ys, ρF) := by
  unfold dcGo at h
  cases h1 : bindT ρ tg d with
  | none => rw [h1] at h; cases h
  | some ρ1 =>
    rw [h1, got_some] at h
    cases h2 : key ρ1 with
    | no => rw [h2] at h; cases h
    | er x => rw [h2] at h; cases h
    | ok p =>
      obtain ⟨k, ρ2⟩ := p
      rw [h2, R.bd_ok] at h
      cases h3 : esc ρ2 k with
      | none => rw [h3] at h; cases h
      | some q =>
        obtain ⟨kd, ρ3⟩ := q
        rw [h3, got_some] at h
        cases h4 : val ρ3 with
        | no => rw [h4] at h; cases h
        | er x => rw [h4] at h; cases h
        | ok p =>
          obtain ⟨v, ρ4⟩ := p
          rw [h4, R.bd_ok] at h
          cases h5 : esc ρ4 v with
          | none => rw [h5] at h; cases h
          | some q =>
            obtain ⟨vd, ρ5⟩ := q
            rw [h5, got_some] at h
            by_cases hk : key0 kd = true
            · rw [if_pos hk] at h
              exact ⟨ρ1, k, ρ2, kd, ρ3, v, ρ4, vd, ρ5, rfl, h2, h3, h4, h5, hk, h⟩
            · rw [if_neg hk] at h
              cases h
theorem dc_go {cx : Ctx} {tge iter : Expr} {tg : Tg} {w : Wk} {cit ckey cval : C} {own : List (Str × Nat)} {Q : VK}
    (hi : SndI cx X W tge tg iter w cit) (htg : ∀ i ∈ tgs tg, i ∈ own.map (·.2)) {X' : Cx} {tt : TT} {tk tv : TE} (hK : X'.K = X.K) (hm : gm X' = gm X)
    (ht : ∀ σ H Q, Q true H → tt σ H Q)
    (hk : ∀ ρ M A σ H Q, Rel X.K (gm X) M A ρ σ H → AccE X' WNo M A σ H (ev cx ckey ρ) Q → tk σ H Q) (he : ∀ ρ M A σ H Q, Rel X.K (gm X) M A ρ σ H → AccE X' WNo M A σ H (ev cx cval ρ) Q → tv σ H Q)
    (rel : Rel X.K (gm X) M A ρ σ H) (acc : AccE X W M A σ H (ev cx (.dc (own.map (·.2)) ckey cval tg w cit) ρ) Q) : conv X (tDc (SIt X tge iter) (gT X.K tg) tt tk tv (own.map (·.2))) σ H Q := by
  generalize hvs : own.map (·.2) = vs at htg acc ⊢
  refine hi ρ M A σ H _ rel ?_
  have acc : AccE X W M A σ H ((ev cx cit ρ).bd fun x ρ1 => got (listOf x) fun rs => got (reads ρ1 rs) fun ds => got (walked w ds) fun items =>
      if items.length ≤ big then
        (noEr (dcGo (ev cx ckey) (ev cx cval) tg vs items (wipeE (wipeE ρ1 (lent rs)) vs) [])).bd fun kvs ρ2 => .ok (.f (.dict kvs), backE (backE ρ2 ρ1 vs) ρ1 (lent rs))
      else .no) Q := acc
  cases g : ev cx cit ρ with
  | no => rw [g] at acc; exact acc
  | er x => rw [g] at acc; exact acc
  | ok pr =>
    obtain ⟨r, ρ1⟩ := pr
    rw [g, R.bd_ok] at acc
    obtain ⟨rs, e1, accA⟩ := acc.of
    obtain ⟨ds, e2, accB⟩ := accA.of
    obtain ⟨items, e3, accC⟩ := accB.of
    clear acc accA accB
    by_cases hlen : items.length ≤ big
    · rw [if_pos hlen] at accC
      have er : r = .l rs := by
        unfold listOf at e1
        split at e1 <;> cases e1
        rfl
      subst er
      refine ⟨rs, ds, items, rfl, e2, e3, fun us H1 M1 A1 J s1 r1 h1 tw => ?_⟩
      have acc := accC.step s1
      clear accC
      cases hgo : noEr (dcGo (ev cx ckey) (ev cx cval) tg vs items (wipeE (wipeE ρ1 (lent rs)) vs) []) with
      | no => rw [hgo] at acc; exact acc.elim
      | er x =>
        exfalso
        unfold noEr at hgo
        split at hgo <;> cases hgo
      | ok pF =>
        obtain ⟨dsF, ρF⟩ := pF
        rw [hgo, R.bd_ok] at acc
        have hgo := noEr_ok hgo
        intro Dn hDn
        generalize his : lent rs ++ vs = is at *
        have hwe : wipeE (wipeE ρ1 (lent rs)) vs = wipeE ρ1 is := by rw [← his]; unfold wipeE; rw [List.foldl_append]
        have hbk : ∀ ρ2 : Env, ρ2.length = ρ1.length → backE (backE ρ2 ρ1 vs) ρ1 (lent rs) = backE ρ2 ρ1 (vs ++ lent rs) := fun ρ2 _ => by unfold backE; rw [List.foldl_append]
        have hvi : ∀ i ∈ vs, i ∈ is := fun i h => by rw [← his]; exact List.mem_append_right _ h
        have nMD : ¬ M1 Dn := nm_of r1 hDn
        have rA := r1.newM (o := .dK []) hDn
        have rB := rA.wiped (is := is) (vs := vs) hvi
        generalize hM1' : (fun a => a = Dn ∨ M1 a) = M1' at rA rB
        have hMD : M1' Dn := by rw [← hM1']; exact .inl rfl
        have nAD : ¬ mns A1 ρ1 σ is Dn := fun z => nMD (r1.am _ z.1)
        have solid : ∀ a d, (V.ref a, d) ∈ us.zip ds → kind d = 1 ∨ kind d = 2 → ¬ mns A1 ρ1 σ is a := by
          intro a d hmem hk z
          obtain ⟨rv, hrv, hok, hrd⟩ := zip_rv h1 e2 hmem
          cases rv with
          | d d' =>
            cases hrd
            exact rp_solid hok hk (r1.am a z.1)
          | f d' =>
            obtain ⟨p, e, _, nm, _⟩ := hok
            cases e
            exact nm (r1.am _ z.1)
          | l _ => cases hrd
          | o i =>
            have hs : σ[i]? = some (some (.ref a)) := hok
            simp only [read] at hrd
            cases gi : get ρ1 i with
            | no => rw [gi] at hrd; cases hrd
            | fz d' =>
              rw [gi] at hrd
              cases hrd
              obtain ⟨v, q1, q2⟩ := r1.fz i _ gi
              rw [hs] at q1
              cases q1
              exact rp_solid q2 hk (r1.am a z.1)
            | ow d' => exact z.2 ⟨i, d', by rw [← his]; exact List.mem_append_left _ (mem_lent hrv), gi, hs⟩
        have stay : ∀ {Mi Ai : Set} {H' : Hp}, Stp M1' (fun a => a = Dn ∨ mns A1 ρ1 σ is a) (upd H1 Dn (.dK [])) Mi (fun a => a = Dn ∨ Ai a) H' → ∀ a d o, (V.ref a, d) ∈ us.zip ds → kind d = 1 ∨ kind d = 2 → H1 a = some o → H' a = some o := fun {Mi Ai H'} st a d o hm hk ho => by
          have hne : a ≠ Dn := ne_of_none ho hDn
          refine st.fr a o ?_ (by rw [upd_ne hne]; exact ho)
          rintro (z | z)
          · exact hne z
          · exact solid a d hm hk z
        have ex1 : Ex (hid M1 H1) (hid M1' (upd H1 Dn (.dK []))) := by rw [← hM1']; exact hid_new hDn
        refine dc_it (G := fun H' => ∀ a d o, (V.ref a, d) ∈ us.zip ds → kind d = 1 ∨ kind d = 2 → H1 a = some o → H' a = some o) tw
          (fun i H' => ∃ ρi Mi Ai kvs accD, Rel X.K (gm X) Mi Ai ρi (wipe σ vs) H' ∧ Stp M1' (fun a => a = Dn ∨ mns A1 ρ1 σ is a) (upd H1 Dn (.dK [])) Mi (fun a => a = Dn ∨ Ai a) H' ∧ H' Dn = some (.dK kvs) ∧ Mi Dn ∧ ¬ Ai Dn ∧ RpP X.K (gm X) (hid Mi H') (kvs.map fun p => (kD p.1, p.2)) accD ∧ kvs.length ≤ i ∧
            dcGo (ev cx ckey) (ev cx cval) tg vs (items.drop i) ρi accD = .ok (dsF, ρF))
          ⟨wipeE ρ1 is, M1', mns A1 ρ1 σ is, [], [], rB, .refl, upd_same, hMD, nAD, .nil, Nat.le_refl _, by rw [List.drop_zero, ← hwe]; exact hgo⟩ ?_ ?_ ?_
        · rintro i H' hi ⟨ρi, Mi, Ai, xs, accD, _, st, _⟩
          exact stay st
        · rintro i x H' H'' hi ⟨ρi, Mi, Ai, kvs, accD, ri, st, hD, mD, nD, hx, hxl, go⟩ ⟨exT, hb⟩
          obtain ⟨d, hd⟩ : ∃ d, items[i]? = some d := ⟨items[i], by simp [hi]⟩
          have hdr : items.drop i = d :: items.drop (i + 1) := by
            obtain ⟨hlt, e⟩ := List.getElem?_eq_some_iff.mp hd
            rw [List.drop_eq_getElem_cons hlt, e]
          rw [hdr] at go
          obtain ⟨ρb, k, ρ2, kd, ρ3, v, ρ4, vd, ρ5, hbind, hkey, hek, hval, hev, hk0, go'⟩ := dc_turn go
          have exi : Ex (hid M1 H1) (hid Mi H') := ex1.trans (st.ex fun a z => z.elim (fun e => by rw [e]; exact hMD) fun z => rA.am a (by exact z.1) |> fun q => by rw [← hM1']; rw [← hM1'] at q; exact q)
          have bok := hb d Mi hd exi ri.mh
          have ri' := ri.ex exT
          have st' : Stp M1' (fun a => a = Dn ∨ mns A1 ρ1 σ is a) (upd H1 Dn (.dK [])) Mi (fun a => a = Dn ∨ Ai a) H'' := st.trans (.of_ex exT)
          refine gT_ok ri' bok hbind fun σ2 r2 ⟨vv, e2'⟩ => ?_
          have hw2 : wipe σ2 vs = wipe σ vs := by rw [e2', wipe_setV htg, wipe_wipe]
          refine ⟨hw2, ht _ _ _ ?_⟩
          rw [if_pos rfl]
          refine hk ρb Mi Ai σ2 H'' _ r2 ?_
          rw [hkey]
          intro uk H3 M3 A3 s3 r3 h3
          rw [hK, hm] at r3 h3
          replace r3 := r3.weak h3
          obtain ⟨M4, A4, s4, r4, h4⟩ := esc_ok r3 h3 hek
          have s34 := s3.trans s4
          refine he ρ3 M4 A4 σ2 H3 _ r4 ?_
          rw [hval]
          intro uv H5 M5 A5 s5 r5 h5
          rw [hK, hm] at r5 h5
          replace r5 := r5.weak h5
          obtain ⟨M6, A6, s6, r6, h6⟩ := esc_ok r5 h5 hev
          have s36 := s34.trans (s5.trans s6)
          have D5 : H5 Dn = some (.dK kvs) := s36.fr Dn _ nD (exT _ _ hD)
          have mD5 : M6 Dn := s36.keep Dn mD nD
          have nD5 : ¬ A6 Dn := fun z => nD (s36.subA _ z)
          have st5 := st'.trans s36.widen
          have hx5 : RpP X.K (gm X) (hid M6 H5) (kvs.map fun p => (kD p.1, p.2)) accD := (hx.ex (Ex.hid exT)).ex (s36.ex ri'.am)
          obtain ⟨q, rfl⟩ := key0_of hk0
          have ekV : uk = kV q := h4.kV
          have r7 := (r6.upD (o := .dK (putK kvs q uv)) mD5 nD5).wipeJust (is := vs)
          rw [hw2] at r7
          refine ⟨kvs, q, ekV, D5, Nat.lt_of_le_of_lt hxl (Nat.lt_of_lt_of_le hi (bigL hlen)), _, M6, A6, putK kvs q uv, dput accD (kD q) vd, r7, st5.trans (.wr (.inl rfl) ⟨_, D5⟩), upd_same, mD5, nD5, ?_, ?_, go'⟩
          · exact (RpP.put eqv_kD h6 hx5).ex (hid_upD mD5)
          · have := length_putK kvs q uv
            omega
        · rintro H' ⟨ρi, Mi, Ai, kvs, accD, ri0, st0, hD0, mD, nD, hx0, hxl, go⟩
          rw [List.drop_length] at go
          cases go
          refine ⟨Dn, kvs, rfl, hD0, fun ob => ?_⟩
          have ri := ri0.upD (o := DKo (gm X) Dn ob kvs) mD nD
          have st := st0.trans (.wr (D := Dn) (o := DKo (gm X) Dn ob kvs) (.inl rfl) ⟨_, hD0⟩)
          have hx := hx0.ex (hid_upD (o := DKo (gm X) Dn ob kvs) mD)
          have hD : upd H' Dn (DKo (gm X) Dn ob kvs) Dn = some (DKo (gm X) Dn ob kvs) := upd_same
          generalize upd H' Dn (DKo (gm X) Dn ob kvs) = H' at *
          have mm : ∀ a, (Mi a ∧ a ≠ Dn) → M1 a := fun a z => by
            have := st.sub a z.1
            rw [← hM1'] at this
            exact this.resolve_left z.2
          have s7 : Stp M1 (mns A1 ρ1 σ is) H1 (fun a => Mi a ∧ a ≠ Dn) Ai H' := by
            have ne : ∀ a o, H1 a = some o → a ≠ Dn := fun a o h => ne_of_none h hDn
            refine ⟨mm, fun a z n => ⟨st.keep a (by rw [← hM1']; exact .inr z) ?_, ?_⟩, fun a z => (st.subA a (.inr z)).resolve_left fun e => nD (e ▸ z), fun a o n e => st.fr a o ?_ (by rw [upd_ne (ne a o e)]; exact e), fun a o e => st.th a o (by rw [upd_ne (ne a o e)]; exact e)⟩
            · rintro (e | q)
              · exact nMD (e ▸ z)
              · exact n q
            · rintro rfl
              exact nMD z
            · rintro (e' | q)
              · exact ne a o e e'
              · exact n q
          have hvi2 : ∀ i ∈ vs, i ∈ vs ++ lent rs := fun i h => List.mem_append_left _ h
          have emn : mns A1 ρ1 σ is = mns A1 ρ1 σ (vs ++ lent rs) := by
            funext a
            unfold mns
            rw [← his]
            simp only [List.mem_append, Or.comm]
          rw [emn] at s7
          have exi : Ex (hid M1 H1) (hid Mi H') := ex1.trans (st.ex fun a z => z.elim (fun e => by rw [e]; exact hMD) fun z => rB.am a z)
          obtain ⟨A3, s8, r8, hA3⟩ := r1.back hvi2 s7 (fun a z => z.1) exi ri
          have el : ρF.length = ρ1.length := by rw [ri.len, wipe_length, r1.len]
          rw [hbk _ el] at acc
          have nA3 : ¬ A3 Dn := fun z => nMD (r1.am _ (s8.subA _ z))
          refine acc _ H' _ A3 s8 ⟨Dn, rfl, nA3, ?_⟩ ⟨Dn, rfl, hDn, fun z => z.2 rfl, .inl ⟨ob, kvs, hD, hx.ex (hid_mono (fun a z => z.elim (fun e => by rw [e]; exact mD) (·.1)) fun _ _ _ q => q)⟩⟩
          rw [show (fun a => a = Dn ∨ Mi a ∧ a ≠ Dn) = Mi from funext fun a => propext ⟨fun z => z.elim (fun e => by rw [e]; exact mD) (·.1), fun z => by by_cases e : a = Dn <;> simp [e, z]⟩]
          exact r8
    · rw [if_neg hlen] at accC
      exact accC.elim
/-- what holds of a dict comprehension -/
structure DcOk (cx : Ctx) (X : Cx) (W : Wish) (tge iter key val : Expr) (tg : Tg) (w : Wk) (cit ckey cval : C) (scope : Scope) (own : List (Str × Nat)) : Prop where
  calm : X.calm = true
  nd : X.N.Nodup
  ok : BlkOk X.N X.env.scope scope own
  hi : SndI cx X W tge tg iter w cit
  htg : ∀ i ∈ tgs tg, i ∈ own.map (·.2)
  hs : ∀ x, foldedSetIterable iter X.env x = pure x
  hg : ∀ (s : Shared) (H : Hp) (Ca : Addr) (cl : List (Str × Addr)) (fp : List Addr), PG (X.blk s H scope (compEnvC scope cl Ca X.env) fp) tge (gT X.K tg)
  hk : ∀ (s : Shared) (H : Hp) (Ca : Addr) (cl : List (Str × Addr)) (fp : List Addr), SndE cx (X.blk s H scope (compEnvC scope cl Ca X.env) fp) WNo key ckey
  he : ∀ (s : Shared) (H : Hp) (Ca : Addr) (cl : List (Str × Addr)) (fp : List Addr), SndE cx (X.blk s H scope (compEnvC scope cl Ca X.env) fp) WNo val cval
section
variable {tge iter key val : Expr} {tg : Tg} {w : Wk} {cit ckey cval : C} {scope : Scope} {own : List (Str × Nat)} {pos : Pos}
theorem DcOk.read (L : DcOk cx X W tge iter key val tg w cit ckey cval scope own) {Q : VK} (rel : Rel X.K (gm X) M A ρ σ H) (acc : AccE X W M A σ H (ev cx (.dc (own.map (·.2)) ckey cval tg w cit) ρ) Q) :
    conv X (tDc (SIt X tge iter) (gT X.K tg) (tTB X scope []) (tEB X scope key) (tEB X scope val) (own.map (·.2))) σ H Q := by
  refine dc_go (X' := X) L.hi L.htg rfl rfl (fun σ H Q q s H0 Ca cl fp => sts_of pts_nil q) (fun ρ M A σ H Q rel acc s H0 Ca cl fp => L.hk s H0 Ca cl fp ρ M A σ H Q rel ?_) (fun ρ M A σ H Q rel acc s H0 Ca cl fp => L.he s H0 Ca cl fp ρ M A σ H Q rel ?_) rel acc
  · exact acc
  · exact acc
theorem snd_dc (L : DcOk cx X W tge iter key val tg w cit ckey cval scope own) : SndE cx X W (.DictComp key val [⟨tge, iter, [], 0⟩] scope pos) (.dc (own.map (·.2)) ckey cval tg w cit) :=
  fun ρ M A σ H Q rel acc => se_of (pe_conv (pe_dc L.calm L.nd pi_si L.ok L.hg pts_tb pe_eb pe_eb L.hs)) (L.read rel acc)
end
end
end Iv
set_option maxRecDepth 100000
set_option maxHeartbeats 4000000
/-! Iv12: statements. -/
namespace Iv
open PySem PySem.Spec PyProof.Rows L2

/-- a def's run: what its caller hides, the heap at its start, the in-out object, what stands -/
structure Bd where
  Mc : Set
  H0 : Hp
  io : Bool
  p0 : Addr
  G : Hp
  mh : ∀ a, Mc a → ∃ o, H0 a = some o
def Bd.out (B : Bd) (a : Addr) : Prop := B.io = true ∧ a = B.p0
structure Fr (B : Bd) (M A : Set) (σ : St) (H : Hp) : Prop where
  mc : ∀ a, B.Mc a → ¬ B.out a → M a
  an : ∀ a, A a → B.H0 a = none ∨ B.out a
  fr : ∀ a o, ¬ B.out a → B.H0 a = some o → H a = some o
  th : ∀ a o, B.H0 a = some o → ∃ o', H a = some o'
  p0 : B.io = true → σ[0]? = some (some (.ref B.p0))
  ex : Ex B.G (hid M H)
def FrE (B : Bd) (H : Hp) : Prop := ∀ a o, ¬ B.out a → B.H0 a = some o → H a = some o
def SI (X : Cx) (B : Bd) (ρ : Env) (σ : St) (H : Hp) : Prop := ∃ M A, Rel X.K (gm X) M A ρ σ H ∧ Fr B M A σ H
def RtOk (X : Cx) (B : Bd) (d : D) (fr : Bool) (ρ : Env) (σ : St) (H : Hp) (v : V) : Prop := ∃ M A, Rel X.K (gm X) M A ρ σ H ∧ Fr B M A σ H ∧ match fr with
  | false => Rp X.K (gm X) (hid M H) v d
  | true => ∃ p, v = .ref p ∧ (B.H0 p = none ∨ B.out p) ∧ M p ∧ ¬ A p ∧ Own X.K (gm X) (hid M H) H p d
def AccS (X : Cx) (W : Wish) (B : Bd) (Dn : Ends) : F → Prop
  | .nx ρ => ∀ σ H, SI X B ρ σ H → Dn.nx σ H
  | .bk ρ => ∀ σ H, SI X B ρ σ H → Dn.bk σ H
  | .ct ρ => ∀ σ H, SI X B ρ σ H → Dn.ct σ H
  | .rt d fr ρ => ∀ v σ H, RtOk X B d fr ρ σ H v → Dn.rt v H
  | .er x => ∀ σ H, FrE B H → W x σ H
  | .no => False
/-- the code c tells the statement st -/
def SndS (cx : Ctx) (X : Cx) (W : Wish) (io : Bool) (st : Stmt) (c : S) : Prop := ∀ B, (B.io = true → io = true) → ∀ ρ σ H Dn, SI X B ρ σ H → AccS X W B Dn (xec cx c ρ) → SS X st Dn σ H
def SndSs (cx : Ctx) (X : Cx) (W : Wish) (io : Bool) (sts : List Stmt) (c : S) : Prop := ∀ B, (B.io = true → io = true) → ∀ ρ σ H Dn, SI X B ρ σ H → AccS X W B Dn (xec cx c ρ) → SSs X sts Dn σ H
section
variable {X : Cx} {W : Wish} {B : Bd} {M A M1 A1 : Set} {σ : St} {H H1 : Hp} {cx : Ctx} {ρ : Env} {Dn : Ends} {io : Bool}
theorem Fr.step (f : Fr B M A σ H) (rel : Rel X.K (gm X) M A ρ σ H) (s : Stp M A H M1 A1 H1) : Fr B M1 A1 σ H1 := by
  have nA : ∀ a o, ¬ B.out a → B.H0 a = some o → ¬ A a := fun a o n e z => (f.an a z).elim (fun q => by rw [e] at q; cases q) n
  refine ⟨fun a z n => s.keep a (f.mc a z n) ?_, fun a z => f.an a (s.subA a z), fun a o n e => s.fr a o (nA a o n e) (f.fr a o n e), fun a o e => ?_, f.p0, f.ex.trans (s.ex rel.am)⟩
  · obtain ⟨o, e⟩ := B.mh a z
    exact nA a o n e
  · obtain ⟨o', e'⟩ := f.th a o e
    exact s.th a o' e'
/-- more of A let go -/
theorem Fr.sub {M2 A2 : Set} (f : Fr B M A σ H) (hm : ∀ a, M a → M2 a) (ha : ∀ a, A2 a → A a ∨ B.H0 a = none) (ex : Ex B.G (hid M2 H)) : Fr B M2 A2 σ H :=
  ⟨fun a z n => hm a (f.mc a z n), fun a z => (ha a z).elim (f.an a) .inl, f.fr, f.th, f.p0, ex⟩
theorem Fr.st {σ' : St} (f : Fr B M A σ H) (h : B.io = true → σ'[0]? = σ[0]?) : Fr B M A σ' H := ⟨f.mc, f.an, f.fr, f.th, fun e => (h e).trans (f.p0 e), f.ex⟩
def Seen (B : Bd) (H0 : Hp) : Prop := (∀ a o, B.H0 a = some o → ∃ o', H0 a = some o') ∧ ∀ a o, B.G a = some o → ∃ o', H0 a = some o'
theorem Fr.seen (f : Fr B M A σ H) : Seen B H := ⟨f.th, fun a o e => ⟨o, hid_le a o (f.ex a o e)⟩⟩
theorem Fr.e (f : Fr B M A σ H) : FrE B H := f.fr
theorem out0 {i : Nat} {x : Option V} (hio : io = true → i ≠ 0) (hB : B.io = true → io = true) : B.io = true → (σ.set i x)[0]? = σ[0]? := fun h => List.getElem?_set_ne (hio (hB h))

/-- an expression, then the rest -/
theorem SndE.stm {e : Expr} {c : C} (h : SndE cx X W e c) {k : Rv → Env → F} {Q1 : VK} (si : SI X B ρ σ H) (acc : AccS X W B Dn (lift (ev cx c ρ) k))
    (hk : ∀ x ρ1 v H0 H1 M A, RelR X.K (gm X) M A ρ1 σ H1 x v → Rel X.K (gm X) M A ρ1 σ H1 → Fr B M A σ H1 → RvOk X.K (gm X) M σ H0 H1 x v → Seen B H0 → AccS X W B Dn (k x ρ1) → Q1 v H1) : SE X e σ H Q1 := by
  obtain ⟨M, A, rel, f⟩ := si
  refine h ρ M A σ H _ rel ?_
  cases g : ev cx c ρ with
  | ok p =>
    rw [g] at acc
    exact fun v H1 M1 A1 s1 r1 h1 => hk p.1 p.2 v H H1 M1 A1 r1 (r1.weak h1) (f.step rel s1) h1 f.seen acc
  | er x =>
    rw [g] at acc
    exact fun H1 M1 A1 s1 => acc σ H1 (f.step rel s1).e
  | no =>
    rw [g] at acc
    exact acc
theorem SndT.stm {e : Expr} {c : C} (h : SndT cx X W e c) {k : Rv → Env → F} {Q1 : Bool → Hp → Prop} (si : SI X B ρ σ H) (acc : AccS X W B Dn (lift (ev cx c ρ) k))
    (hk : ∀ b ρ1 H1, SI X B ρ1 σ H1 → AccS X W B Dn (k (.d (.bool b)) ρ1) → Q1 b H1) : ST X e σ H Q1 := by
  obtain ⟨M, A, rel, f⟩ := si
  refine h ρ M A σ H _ rel ?_
  cases g : ev cx c ρ with
  | ok p =>
    rw [g] at acc
    exact fun b H1 M1 A1 e1 s1 r1 => hk b p.2 H1 ⟨M1, A1, r1, f.step rel s1⟩ (by rw [← e1]; exact acc)
  | er x =>
    rw [g] at acc
    exact fun H1 M1 A1 s1 => acc σ H1 (f.step rel s1).e
  | no =>
    rw [g] at acc
    exact acc
theorem SndA.stm {es : List Expr} {c : C} (h : SndA cx X W es c) {k : Rv → Env → F} {Q1 : List V → Hp → Prop} (si : SI X B ρ σ H) (acc : AccS X W B Dn (lift (ev cx c ρ) k))
    (hk : ∀ rs ρ1 vs H0 H1 M A, RelRs X.K (gm X) M A ρ1 σ H1 rs vs → Rel X.K (gm X) M A ρ1 σ H1 → Fr B M A σ H1 → RvsOk X.K (gm X) M σ H0 H1 rs vs → Seen B H0 → AccS X W B Dn (k (.l rs) ρ1) → Q1 vs H1) : SA X es σ H Q1 := by
  obtain ⟨M, A, rel, f⟩ := si
  refine h ρ M A σ H _ rel ?_
  cases g : ev cx c ρ with
  | ok p =>
    rw [g] at acc
    intro rs vs H1 M1 A1 e1 s1 r1 h1 q1
    refine hk rs p.2 vs H H1 M1 A1 q1 r1 (f.step rel s1) h1 f.seen ?_
    rw [← e1]
    exact acc
  | er x =>
    rw [g] at acc
    exact fun H1 M1 A1 s1 => acc σ H1 (f.step rel s1).e
  | no =>
    rw [g] at acc
    exact acc
theorem AccS.of {α : Type} {o : Option α} {k : α → F} (acc : AccS X W B Dn (lifo o k)) : ∃ a, o = some a ∧ AccS X W B Dn (k a) := by
  cases o with
  | none => exact acc.elim
  | some a => exact ⟨a, rfl, acc⟩

/-! ### blocks -/
theorem sndSs_nil : SndSs cx X W io [] .nil := fun B hB ρ σ H Dn si acc => sss_of pss_nil (acc σ H si)
theorem sndSs_cons {st : Stmt} {sts : List Stmt} {c cs : S} (h : SndS cx X W io st c) (hr : SndSs cx X W io sts cs) : SndSs cx X W io (st :: sts) (.seq c cs) := by
  intro B hB ρ σ H Dn si acc
  refine sss_of (pss_cons ps_ss pss_sss) (h B hB ρ σ H _ si ?_)
  have acc : AccS X W B Dn ((xec cx c ρ).seq (xec cx cs)) := acc
  cases g : xec cx c ρ with
  | nx ρ1 =>
    rw [g] at acc
    exact fun σ1 H1 si1 => hr B hB ρ1 σ1 H1 Dn si1 acc
  | rt d fr ρ1 => rw [g] at acc; exact acc
  | bk ρ1 => rw [g] at acc; exact acc
  | ct ρ1 => rw [g] at acc; exact acc
  | er x => rw [g] at acc; exact acc
  | no => rw [g] at acc; exact acc
theorem snd_pass {pos : Pos} : SndS cx X W io (.Pass pos) .pass := fun B hB ρ σ H Dn si acc => ss_of ps_pass (acc σ H si)
theorem snd_brk {pos : Pos} : SndS cx X W io (.Break pos) .brk := fun B hB ρ σ H Dn si acc => ss_of ps_break (acc σ H si)
theorem snd_cont {pos : Pos} : SndS cx X W io (.Continue pos) .cont := fun B hB ρ σ H Dn si acc => ss_of ps_continue (acc σ H si)
theorem snd_doc {x j pos pos'} : SndS cx X W io (.Expr (.Constant (.str x) j pos) pos') .pass := fun B hB ρ σ H Dn si acc => ss_of ps_doc (acc σ H si)
theorem snd_retN {pos : Pos} : SndS cx X W io (.Return none pos) .retN := fun B hB ρ σ H Dn si acc => ss_of ps_retN (let ⟨M, A, rel, f⟩ := si; acc .non σ H ⟨M, A, rel, f, .non⟩)
theorem snd_if {t : Expr} {a b : List Stmt} {ct : C} {ca cb : S} {pos : Pos} (ht : SndT cx X W t ct) (ha : SndSs cx X W io a ca) (hb : SndSs cx X W io b cb) : SndS cx X W io (.If t a b pos) (.ife ct ca cb) := by
  intro B hB ρ σ H Dn si acc
  refine ss_of (ps_if pt_st pss_sss pss_sss) (ht.stm si acc fun b ρ1 H1 si1 acc1 => ?_)
  obtain ⟨b', e, acc1⟩ := acc1.of
  have e : some b = some b' := e
  cases e
  cases b with
  | true =>
    rw [if_pos rfl]
    exact ha B hB ρ1 σ H1 Dn si1 acc1
  | false =>
    rw [if_neg (by decide)]
    exact hb B hB ρ1 σ H1 Dn si1 acc1
theorem snd_expr {e : Expr} {c : C} {pos : Pos} (hs : swapsWith e none pos.line X.env = pure false) (h : SndE cx X W e c) : SndS cx X W io (.Expr e pos) (.exp c) := by
  intro B hB ρ σ H Dn si acc
  exact ss_of (ps_expr pe_se hs) (h.stm si acc fun x ρ1 v H0 H1 M A rr rel f hv h0 acc1 => acc1 σ H1 ⟨M, A, rel, f⟩)
/-- let go, at a statement -/
theorem esc_st {r : Rv} {v : V} {H0 : Hp} {p : D × Env} (rel : Rel X.K (gm X) M A ρ σ H) (f : Fr B M A σ H) (h : RvOk X.K (gm X) M σ H0 H r v) (e : esc ρ r = some p) :
    ∃ M1 A1, Rel X.K (gm X) M1 A1 p.2 σ H ∧ Fr B M1 A1 σ H ∧ Rp X.K (gm X) (hid M1 H) v p.1 ∧ Stp M A H M1 A1 H := by
  obtain ⟨M1, A1, s1, r1, h1⟩ := esc_ok (d := p.1) (ρ1 := p.2) rel h e
  exact ⟨M1, A1, r1, f.step rel s1, h1, s1⟩

/-! ### stores -/
theorem store_st {i : Nat} {r : Rv} {v : V} {H0 : Hp} {ρ2 : Env} (rr : RelR X.K (gm X) M A ρ σ H r v) (rel : Rel X.K (gm X) M A ρ σ H) (f : Fr B M A σ H) (h : RvOk X.K (gm X) M σ H0 H r v) (h0 : Seen B H0)
    (hio : io = true → i ≠ 0) (hB : B.io = true → io = true) (e : store i r ρ = some ρ2) : SI X B ρ2 (σ.set i (some v)) H := by
  cases r with
  | l _ => cases e
  | d d =>
    cases e
    exact ⟨M, A, rel.setFz h, f.st (out0 hio hB)⟩
  | o j =>
    obtain ⟨p, e1, rfl⟩ := Option.map_eq_some_iff.mp e
    obtain ⟨M1, A1, r1, f1, h1, _⟩ := esc_st rel f h e1
    exact ⟨M1, A1, r1.setFz h1, f1.st (out0 hio hB)⟩
  | f d =>
    cases e
    obtain ⟨p, rfl, nA, rs⟩ := rr
    obtain ⟨p', ep, hp, nm, ho⟩ := h
    cases ep
    have hnew : B.H0 p = none := by
      cases q : B.H0 p with
      | none => rfl
      | some u =>
        obtain ⟨o', e'⟩ := h0.1 p u q
        rw [hp] at e'
        cases e'
    refine ⟨_, _, rs.setOw (i := i) (p := p) (d := d) (.inl rfl) nA ho, (f.sub (fun a z => .inr z) (fun a z => z.elim (fun e => .inr (e ▸ hnew)) .inl) ?_).st (out0 hio hB)⟩
    intro a o e
    obtain ⟨n, e1⟩ := hid_some.mp (f.ex a o e)
    refine hid_some.mpr ⟨fun z => z.elim (fun z => ?_) n, e1⟩
    obtain ⟨o', e'⟩ := h0.2 a o e
    rw [z, hp] at e'
    cases e'
theorem snd_asg {x : Str} {i : Nat} {e : Expr} {c : C} {pos pos' : Pos} (hN : X.N.Nodup) (hi : X.N[i]? = some x) (hx : Loc X.env.scope x) (hs : swapsWith e (some (.Name x pos')) pos.line X.env = pure false) (hf : X.fn x = true ∨ X.env.scope.names.lookup x = some .local)
    (hio : io = true → i ≠ 0) (h : SndE cx X W e c) : SndS cx X W io (.Assign [.Name x pos'] e pos) (.asg i c) := by
  intro B hB ρ σ H Dn si acc
  refine ss_of (ps_set hN hi hx pe_se hs hf) (h.stm si acc fun r ρ1 v H0 H1 M A rr rel f hv h0 acc1 => ?_)
  obtain ⟨ρ2, e2, acc1⟩ := acc1.of
  exact acc1 _ _ (store_st rr rel f hv h0 hio hB e2)
/-- name = [..] on one line -/
theorem snd_asgLc {y : Str} {i : Nat} {py spos pos : Pos} {tge iter elt : Expr} {ifs : List Expr} {tg : Tg} {w : Wk} {cit celt cifs : C} {scope : Scope} {own : List (Str × Nat)} (hi : X.N[i]? = some y) (hyl : X.env.scope.names.lookup y = some .local)
    (hsw : swapsWith (.ListComp elt [⟨tge, iter, ifs, 0⟩] scope pos) (some (.Name y py)) spos.line X.env = pure true) (hio : io = true → i ≠ 0) (L : LcOk cx X W tge iter elt ifs tg w cit celt cifs scope own) :
    SndS cx X W io (.Assign [.Name y py] (.ListComp elt [⟨tge, iter, ifs, 0⟩] scope pos) spos) (.asg i (.lc (own.map (·.2)) celt tg w cit cifs)) := by
  intro B hB ρ σ H Dn si acc
  refine ss_of (ps_setLc L.calm L.nd hi hyl hsw pi_si L.ok L.hg pts_tb pe_eb L.hs) ?_
  obtain ⟨M, A, rel, f⟩ := si
  show tLc _ _ _ _ _ σ H fun v H1 => gName i v σ H1 Dn.nx
  refine L.read rel ?_
  have acc : AccS X W B Dn (lift (ev cx (.lc (own.map (·.2)) celt tg w cit cifs) ρ) fun x ρ1 => lifo (store i x ρ1) .nx) := acc
  cases g : ev cx (.lc (own.map (·.2)) celt tg w cit cifs) ρ with
  | ok p =>
    rw [g] at acc
    intro v H1 M1 A1 s1 r1 h1
    obtain ⟨ρ2, e2, acc1⟩ := AccS.of (show AccS X W B Dn (lifo (store i p.1 p.2) .nx) from acc)
    exact acc1 _ _ (store_st r1 (r1.weak h1) (f.step rel s1) h1 f.seen hio hB e2)
  | er x =>
    rw [g] at acc
    exact fun H1 M1 A1 s1 => acc σ H1 (f.step rel s1).e
  | no =>
    rw [g] at acc
    exact acc
theorem snd_asgT {ts : List Expr} {is : List Nat} {e : Expr} {c : C} {k : Nat} {tpos pos : Pos} (hg : PG X (.Tuple ts k tpos) (gT X.K (.t is))) (hs : swapsWithSole [.Tuple ts k tpos] e pos.line X.env = pure false) (hw : swappedStores [.Tuple ts k tpos] e X.env = pure none)
    (h1 : (assignEach [.Tuple ts k tpos] X.env).map (·.2) = [assign (.Tuple ts k tpos) X.env]) (hio : io = true → 0 ∉ is) (h : SndE cx X W e c) : SndS cx X W io (.Assign [.Tuple ts k tpos] e pos) (.asgT is c) := by
  intro B hB ρ σ H Dn si acc
  refine ss_of (ps_asg pe_se hg hs hw h1) (h.stm si acc fun r ρ1 v H0 H1 M A rr rel f hv h0 acc1 => ?_)
  obtain ⟨p, e2, acc1⟩ := acc1.of
  obtain ⟨ds, e3, acc1⟩ := acc1.of
  obtain ⟨ρ2, e4, acc1⟩ := acc1.of
  obtain ⟨M1, A1, r1, f1, hp, _⟩ := esc_st rel f hv e2
  have ed : p.1 = .tuple ds := by
    unfold tupOf at e3
    split at e3 <;> cases e3
    assumption
  rw [ed] at hp
  refine gT_ok (tg := .t is) r1 (bnd_of hp) e4 fun σ' r' ⟨us, eσ⟩ => acc1 σ' H1 ⟨M1, A1, r', f1.st fun hb => ?_⟩
  rw [eσ]
  exact setV_out (hio (hB hb))
theorem snd_ret {e : Expr} {c : C} {pos : Pos} (h : SndE cx X W e c) : SndS cx X W io (.Return (some e) pos) (.ret c) := by
  intro B hB ρ σ H Dn si acc
  refine ss_of (ps_ret pe_se) (h.stm si acc fun r ρ1 v H0 H1 M A rr rel f hv h0 acc1 => ?_)
  cases r with
  | l _ => exact acc1.elim
  | d d => exact acc1 v σ H1 ⟨M, A, rel, f, hv⟩
  | f d =>
    obtain ⟨p, rfl, nA, rs⟩ := rr
    obtain ⟨p', ep, hp, nm, ho⟩ := hv
    cases ep
    have hnew : ∀ {G : Hp}, (∀ a o, G a = some o → ∃ o', H0 a = some o') → G p = none := fun {G} hG => by
      cases q : G p with
      | none => rfl
      | some u =>
        obtain ⟨o', e'⟩ := hG p u q
        rw [hp] at e'
        cases e'
    refine acc1 _ σ H1 ⟨_, A, rs, f.sub (fun a z => .inr z) (fun a z => .inl z) (fun a o e => ?_), p, rfl, .inl (hnew h0.1), .inl rfl, nA, ho⟩
    obtain ⟨n, e1⟩ := hid_some.mp (f.ex a o e)
    refine hid_some.mpr ⟨fun z => z.elim (fun z => ?_) n, e1⟩
    have := hnew h0.2
    rw [z] at e
    rw [e] at this
    cases this
  | o i =>
    have hv : σ[i]? = some (some v) := hv
    have acc1 : AccS X W B Dn (retF (.o i) ρ1) := acc1
    unfold retF at acc1
    cases g : get ρ1 i with
    | no => simp only [g] at acc1; exact acc1.elim
    | fz d =>
      simp only [g] at acc1
      obtain ⟨v', q1, q2⟩ := rel.fz i d g
      rw [hv] at q1
      cases q1
      exact acc1 v σ H1 ⟨M, A, rel, f, q2⟩
    | ow d =>
      simp only [g] at acc1
      obtain ⟨p, q1, q2, q3⟩ := rel.ow i d g
      rw [hv] at q1
      cases q1
      have r' := rel.wiped (is := [i]) (vs := []) fun j hj => nomatch hj
      exact acc1 _ σ H1 ⟨M, _, r', f.sub (fun a z => z) (fun a z => .inl z.1) f.ex, p, rfl, f.an p q2, rel.am p q2, fun z => z.2 ⟨i, d, by simp, g, hv⟩, q3⟩

/-! ### names stored side by side -/
theorem RelRs.fine {rs : List Rv} {vs : List V} (q : RelRs X.K (gm X) M A ρ σ H rs vs) : Rel X.K (gm X) M A ρ σ H :=
  q.2.1.less (fun a z => .inr z) fun a z => (q.2.1.am a z).resolve_left fun y => (q.1 a y).1 z
/-- as setV, in this order -/
theorem stores_st : ∀ {is : List Nat} {rs : List Rv} {vs : List V} {ρ ρ2 : Env} {σ : St} {M A : Set}, RelRs X.K (gm X) M A ρ σ H rs vs → Fr B M A σ H → (∀ a, FrsIn rs vs a → B.H0 a = none ∧ B.G a = none) →
    (io = true → 0 ∉ is) → (B.io = true → io = true) → stores is rs ρ = some ρ2 → SI X B ρ2 (setV σ is vs) H ∧ vs.length = is.length
  | [], [], [], ρ, _, σ, M, A, q, f, _, _, _, e => by
    cases e
    exact ⟨⟨M, A, q.fine, f⟩, rfl⟩
  | [], [], _ :: _, _, _, _, _, _, ⟨_, _, z⟩, _, _, _, _, _ => nomatch z
  | i :: is, r :: rs, [], _, _, _, _, _, ⟨_, _, z⟩, _, _, _, _, _ => nomatch z
  | i :: is, .d d :: rs, v :: vs, ρ, ρ2, σ, M, A, q, f, hn, hio, hB, e => by
    have e : stores is rs (ρ.set i (.fz d)) = some ρ2 := e
    obtain ⟨q1, q2, q3⟩ := q
    have same : ∀ b, FrsIn (.d d :: rs) (v :: vs) b ↔ FrsIn rs vs b := fun b => FrsIn.cons.trans ⟨fun z => z.elim (fun ⟨d, e, _⟩ => nomatch e) id, .inr⟩
    have eS : (fun b => FrsIn (.d d :: rs) (v :: vs) b ∨ M b) = (fun b => FrsIn rs vs b ∨ M b) := funext fun b => by rw [same b]
    rw [eS] at q2 q3
    cases q3 with
    | d h q3 =>
      have i0 : io = true → i ≠ 0 := fun h e => hio h (by rw [e]; exact List.mem_cons_self)
      obtain ⟨s1, s2⟩ := stores_st (is := is) (rs := rs) (vs := vs) ⟨fun a z => q1 a ((same a).mpr z), q2.setFz (i := i) h, q3⟩ (f.st (out0 i0 hB)) (fun a z => hn a ((same a).mpr z)) (fun h z => hio h (List.mem_cons_of_mem _ z)) hB e
      exact ⟨s1, by simp [s2]⟩
  | i :: is, .f d :: rs, v :: vs, ρ, ρ2, σ, M, A, q, f, hn, hio, hB, e => by
    have e : stores is rs (ρ.set i (.ow d)) = some ρ2 := e
    obtain ⟨q1, q2, q3⟩ := q
    cases q3 with
    | f hS nF ho q3 =>
      rename_i a
      have hin : FrsIn (.f d :: rs) (.ref a :: vs) a := FrsIn.cons.mpr (.inl ⟨d, rfl, rfl⟩)
      have eS : (fun b => FrsIn (.f d :: rs) (.ref a :: vs) b ∨ M b) = (fun b => FrsIn rs vs b ∨ (b = a ∨ M b)) := funext fun b => propext ⟨fun z => z.elim (fun z => (FrsIn.cons.mp z).elim (fun ⟨_, _, e⟩ => by cases e; exact .inr (.inl rfl)) .inl) fun z => .inr (.inr z),
        fun z => z.elim (fun z => .inl (FrsIn.cons.mpr (.inr z))) fun z => z.elim (fun z => .inl (by rw [z]; exact hin)) .inr⟩
      have i0 : io = true → i ≠ 0 := fun h e => hio h (by rw [e]; exact List.mem_cons_self)
      have nA := (q1 a hin).1
      have rel := q2.setOw (i := i) (.inl hin) nA ho
      rw [eS] at rel q3
      have hnew := hn a hin
      have f' : Fr B (fun b => b = a ∨ M b) (fun b => b = a ∨ A b) (σ.set i (some (.ref a))) H := by
        refine (f.sub (fun b z => .inr z) (fun b z => z.elim (fun e => .inr (e ▸ hnew.1)) .inl) fun x o e => ?_).st (out0 i0 hB)
        obtain ⟨n, e1⟩ := hid_some.mp (f.ex x o e)
        refine hid_some.mpr ⟨fun z => z.elim (fun z => ?_) n, e1⟩
        rw [z, hnew.2] at e
        cases e
      have hq : ∀ b, FrsIn rs vs b → ¬ (b = a ∨ A b) ∧ ¬ (b = a ∨ M b) := fun b z => by
        obtain ⟨z1, z2⟩ := q1 b (FrsIn.cons.mpr (.inr z))
        have hne : b ≠ a := fun e => nF (e ▸ z)
        exact ⟨fun y => y.elim hne z1, fun y => y.elim hne z2⟩
      obtain ⟨s1, s2⟩ := stores_st (is := is) (rs := rs) (vs := vs) ⟨hq, rel, q3⟩ f' (fun b z => hn b (FrsIn.cons.mpr (.inr z))) (fun h z => hio h (List.mem_cons_of_mem _ z)) hB e
      exact ⟨s1, by simp [s2]⟩
  | _ :: _, .o _ :: _, _ :: _, _, _, _, _, _, _, _, _, _, _, e => by cases e
  | _ :: _, .l _ :: _, _ :: _, _, _, _, _, _, _, _, _, _, _, e => by cases e
  | [], _ :: _, _, _, _, _, _, _, _, _, _, _, _, e => by cases e
  | _ :: _, [], _, _, _, _, _, _, _, _, _, _, _, e => by cases e
theorem seen_none {a : Addr} {H0 G : Hp} (h : ∀ a o, G a = some o → ∃ o', H0 a = some o') (e : H0 a = none) : G a = none := by
  cases q : G a with
  | none => rfl
  | some u =>
    obtain ⟨o', e'⟩ := h a u q
    rw [e] at e'
    cases e'
theorem par_core {es : List Expr} {c : C} {is : List Nat} {k : List V → Hp → Prop} (h : SndA cx X W es c) (hB : B.io = true → io = true) (hio : io = true → 0 ∉ is) (si : SI X B ρ σ H) (acc : AccS X W B Dn (xec cx (.par is c) ρ))
    (hk : ∀ vs H1, vs.length = is.length → Dn.nx (setV σ is vs) H1 → k vs H1) : SA X es σ H k := by
  refine h.stm (Q1 := k) si acc fun rs ρ1 vs H0 H1 M A q rel f hv h0 acc1 => ?_
  obtain ⟨rs', e1, acc1⟩ := acc1.of
  cases e1
  obtain ⟨ρ2, e2, acc1⟩ := acc1.of
  obtain ⟨s1, s2⟩ := stores_st (io := io) q f (fun a z => let n := frs_new hv z; ⟨seen_none h0.1 n, seen_none h0.2 n⟩) hio hB e2
  exact hk vs H1 s2 (acc1 _ _ s1)
theorem len2 {α : Type} {vs : List α} (h : vs.length = 2) : ∃ a b, vs = [a, b] := match vs, h with
  | [a, b], _ => ⟨a, b, rfl⟩
theorem len3 {α : Type} {vs : List α} (h : vs.length = 3) : ∃ a b c, vs = [a, b, c] := match vs, h with
  | [a, b, c], _ => ⟨a, b, c, rfl⟩
theorem snd_par2 {i j : Nat} {x y : Str} {a b : Expr} {c : C} {px py pt pos : Pos} {kt k2 pt2} (hc : X.calm = true) (hN : X.N.Nodup) (hi : X.N[i]? = some x) (hj : X.N[j]? = some y) (hij : i ≠ j) (hx : X.env.scope.names.lookup x = some .local) (hy : X.env.scope.names.lookup y = some .local)
    (hw : swappedStores [.Tuple [.Name x px, .Name y py] kt pt] (.Tuple [a, b] k2 pt2) X.env = pure (some [x, y])) (hio : io = true → 0 ∉ [i, j]) (h : SndA cx X W [a, b] c) :
    SndS cx X W io (.Assign [.Tuple [.Name x px, .Name y py] kt pt] (.Tuple [a, b] k2 pt2) pos) (.par [i, j] c) := by
  intro B hB ρ σ H Dn si acc
  refine ss_of (ps_par hc hN hi hj hij hx hy pa_sa hw rfl) (par_core h hB hio si acc fun vs H1 hl q => ?_)
  obtain ⟨v, w, rfl⟩ := len2 hl
  exact ⟨v, w, rfl, q⟩
theorem snd_par3 {i j l : Nat} {x y z : Str} {a b d : Expr} {c : C} {px py pz pt pos : Pos} {kt k2 pt2} (hc : X.calm = true) (hN : X.N.Nodup) (hi : X.N[i]? = some x) (hj : X.N[j]? = some y) (hl : X.N[l]? = some z) (hij : i ≠ j) (hil : i ≠ l) (hjl : j ≠ l)
    (hx : X.env.scope.names.lookup x = some .local) (hy : X.env.scope.names.lookup y = some .local) (hz : X.env.scope.names.lookup z = some .local)
    (hw : swappedStores [.Tuple [.Name x px, .Name y py, .Name z pz] kt pt] (.Tuple [a, b, d] k2 pt2) X.env = pure (some [x, y, z])) (hio : io = true → 0 ∉ [i, j, l]) (h : SndA cx X W [a, b, d] c) :
    SndS cx X W io (.Assign [.Tuple [.Name x px, .Name y py, .Name z pz] kt pt] (.Tuple [a, b, d] k2 pt2) pos) (.par [i, j, l] c) := by
  intro B hB ρ σ H Dn si acc
  refine ss_of (ps_par3 hc hN hi hj hl hij hil hjl hx hy hz pa_sa hw rfl) (par_core h hB hio si acc fun vs H1 hl q => ?_)
  obtain ⟨u, v, w, rfl⟩ := len3 hl
  exact ⟨u, v, w, rfl, q⟩
end
end Iv
set_option maxRecDepth 100000
set_option maxHeartbeats 4000000
/-! Iv12d: name = {.. for ..} on one line. -/
namespace Iv
open PySem PySem.Spec PyProof.Rows L2
section
variable {X : Cx} {W : Wish} {B : Bd} {M A M1 A1 : Set} {σ : St} {H H1 : Hp} {cx : Ctx} {ρ : Env} {Dn : Ends} {io : Bool}
theorem ps_setDc {i : Nat} {y : Str} {py : Pos} {kx vx tg iter : Expr} {ifs : List Expr} {scope : Scope} {own : List (Str × Nat)} {pos spos : Pos} {wi : TI} {g : TG} {tt : TT} {tk tv : TE} (hc : X.calm = true) (hN : X.N.Nodup) (hy : X.N[i]? = some y) (hyl : X.env.scope.names.lookup y = some .local)
    (hsw : swapsWith (.DictComp kx vx [⟨tg, iter, ifs, 0⟩] scope pos) (some (.Name y py)) spos.line X.env = pure true) (hi : PI X tg iter wi) (ok : BlkOk X.N X.env.scope scope own)
    (hg : ∀ (s : Shared) (H : Hp) (C : Addr) (cl : List (Str × Addr)) (fp : List Addr), PG (X.blk s H scope (compEnvC scope cl C X.env) fp) tg g) (ht : ∀ (s : Shared) (H : Hp) (C : Addr) (cl : List (Str × Addr)) (fp : List Addr), PTs (X.blk s H scope (compEnvC scope cl C X.env) fp) ifs tt)
    (hk : ∀ (s : Shared) (H : Hp) (C : Addr) (cl : List (Str × Addr)) (fp : List Addr), PE (X.blk s H scope (compEnvC scope cl C X.env) fp) kx tk)
    (he : ∀ (s : Shared) (H : Hp) (C : Addr) (cl : List (Str × Addr)) (fp : List Addr), PE (X.blk s H scope (compEnvC scope cl C X.env) fp) vx tv) (hs : ∀ x, foldedSetIterable iter X.env x = pure x) :
    PS X (.Assign [.Name y py] (.DictComp kx vx [⟨tg, iter, ifs, 0⟩] scope pos) spos) (tAsg (conv X (tDc wi g tt tk tv (own.map (·.2)))) (gName i)) := by
  refine ⟨fun pins s σ H D I h => ?_⟩
  rw [exec_Assign_Name_used _ _ _ _ hsw]
  refine wpAny_bind (wpAny_standAt (wpAny_bind ?_))
  show wpAny _ X.A (do let _ ← comprehension (.DictComp kx vx [⟨tg, iter, ifs, 0⟩] scope pos) scope X.env (firstIterPos [⟨tg, iter, ifs, 0⟩] pos) newDict false (eval iter X.env) (some (assign (.Name y py) X.env))) _ _ s
  have h : tDc wi g tt tk tv (own.map (·.2)) σ H (fun v H1 => ∃ p kvs, v = .ref p ∧ H1 p = some (.dK kvs) ∧ ∀ o, gName i v σ (upd H1 p (DKo (gm X) p o kvs)) D.nx) := h
  refine wpAny_bind (thn (dc_core (Qf := fun _ s' => SP X pins D .next s') hc hN I hi ok hg ht hk he hs h fun L C s' m H' I' q hn f => ?_) fun _ s' hq => wpAny_pure (wpAny_pure hq))
  obtain ⟨p, kvs, ep, hp, q⟩ := q
  cases ep
  obtain ⟨z, hm, vs, kv, o, es, ep, h1, h2, h3, h4, h5, h6⟩ := dk_of I'.hok hp
  have I'' : Inv X pins σ (upd H' L (DKo (gm X) L o kvs)) s' := I'.write (t' := s'.toks) (x := L) (e := L) (by rw [hp]; exact True.intro) (.inl rfl) (fun b q _ e => e) ⟨o, h1⟩ ⟨⟨h1, z, hm, h2, es, ep, vs, h3, kv, h4, h5, h6⟩, ⟨o, h1⟩, fun x1 x2 q1 q2 => ⟨q2 _ q1.1, q1.2⟩⟩
  show wpAny _ _ (assign (.Name y py) X.env (.ref L)) _ _ _
  refine wpAny_assign_Name (store_ok2 (v := V.ref L) I'' hN hy (.inl hyl) rfl (fun s2 I2 ⟨a, sb, ha⟩ => ?_) (.inr hyl))
  obtain ⟨f0, f1, f2, f3, f4, f5⟩ := f
  have haC : C ≠ a := by
    rcases ha with z | z
    · rw [z]; exact f1
    · exact fun e => f4 y a z e.symm
  have f0' : (upd H' L (DKo (gm X) L o kvs)) C = none := by
    rw [upd_ne]
    · exact f0
    · rintro rfl
      rw [f0] at hp
      cases hp
  refine ⟨m, hn.sameBut sb haC, fun h3 sb3 => ?_⟩
  exact ⟨_, _, I2.turned (t' := s2.toks) (fun b o hb e => (sb3.2 b hb).trans e) f0' f1 f3 f4 f5, q o⟩
theorem sw_trueD {kx vx : Expr} {gs : List Comprehension} {scope : Scope} {pos py : Pos} {y : Str} {l : Nat} {env : PySem.Env} (hk : env.scope.kind = .function) (hy : env.scope.names.lookup y = some .local) (hl : (py.line == pos.line) = true)
    (ha : (scope.names.any fun (n, k) => n == y && (k == .local || k == .cell)) = false) : swapsWith (.DictComp kx vx gs scope pos) (some (.Name y py)) l env = pure true := by
  have ky : env.kindOf y = some .local := hy
  have hb : env.blockKind = .function := by unfold PySem.Env.blockKind; rw [hk]; rfl
  unfold swapsWith
  simp only [hb, ky, ha, Expr.pos, hl]
  rfl
theorem snd_asgDc {y : Str} {i : Nat} {py spos pos : Pos} {tge iter key val : Expr} {tg : Tg} {w : Wk} {cit ckey cval : C} {scope : Scope} {own : List (Str × Nat)} (hi : X.N[i]? = some y) (hyl : X.env.scope.names.lookup y = some .local)
    (hsw : swapsWith (.DictComp key val [⟨tge, iter, [], 0⟩] scope pos) (some (.Name y py)) spos.line X.env = pure true) (hio : io = true → i ≠ 0) (L : DcOk cx X W tge iter key val tg w cit ckey cval scope own) :
    SndS cx X W io (.Assign [.Name y py] (.DictComp key val [⟨tge, iter, [], 0⟩] scope pos) spos) (.asg i (.dc (own.map (·.2)) ckey cval tg w cit)) := by
  intro B hB ρ σ H Dn si acc
  refine ss_of (ps_setDc L.calm L.nd hi hyl hsw pi_si L.ok L.hg pts_tb pe_eb pe_eb L.hs) ?_
  obtain ⟨M, A, rel, f⟩ := si
  show conv X (tDc _ _ _ _ _ _) σ H fun v H1 => gName i v σ H1 Dn.nx
  refine L.read rel ?_
  have acc : AccS X W B Dn (lift (ev cx (.dc (own.map (·.2)) ckey cval tg w cit) ρ) fun x ρ1 => lifo (store i x ρ1) .nx) := acc
  cases g : ev cx (.dc (own.map (·.2)) ckey cval tg w cit) ρ with
  | ok p =>
    rw [g] at acc
    intro v H1 M1 A1 s1 r1 h1
    obtain ⟨ρ2, e2, acc1⟩ := AccS.of (show AccS X W B Dn (lifo (store i p.1 p.2) .nx) from acc)
    exact acc1 _ _ (store_st r1 (r1.weak h1) (f.step rel s1) h1 f.seen hio hB e2)
  | er x =>
    rw [g] at acc
    exact fun H1 M1 A1 s1 => acc σ H1 (f.step rel s1).e
  | no =>
    rw [g] at acc
    exact acc
end
end Iv
set_option maxRecDepth 100000
set_option maxHeartbeats 4000000
/-! Iv13: items set, lists added to, loops, raise. -/
namespace Iv
open PySem PySem.Spec PyProof.Rows L2
section
variable {X : Cx} {W : Wish} {B : Bd} {M A M1 A1 : Set} {σ : St} {H H1 : Hp} {cx : Ctx} {ρ : Env} {Dn : Ends} {io : Bool}

/-- own object changed, at a statement -/
theorem put_st {i : Nat} {d d' : D} {p : Addr} (rel : Rel X.K (gm X) M A ρ σ H) (f : Fr B M A σ H) (g : get ρ i = .ow d) (hp : σ[i]? = some (some (.ref p))) (ho : Own X.K (gm X) (hid M H) H1 p d') (k : ∀ a o, a ≠ p → H a = some o → H1 a = some o) :
    Rel X.K (gm X) M A (ρ.set i (.ow d')) σ H1 ∧ Fr B M A σ H1 := by
  obtain ⟨s, r⟩ := Rel.put rel g hp ho k
  exact ⟨r, f.step rel s⟩
/-- a datum let go, known later -/
theorem keepRp {v : V} {d : D} (h : Rp X.K (gm X) (hid M H) v d) (s : Stp M A H M1 A1 H1) (rel : Rel X.K (gm X) M A ρ σ H) : Rp X.K (gm X) (hid M1 H1) v d := h.ex (s.ex rel.am)
/-- an expression inside a statement, the state's relation told step by step -/
theorem SndE.stp {e : Expr} {c : C} (h : SndE cx X W e c) {k : Rv → Env → F} {Q1 : VK} (rel : Rel X.K (gm X) M A ρ σ H) (f : Fr B M A σ H) (acc : AccS X W B Dn (lift (ev cx c ρ) k))
    (hk : ∀ x ρ1 v H1 M1 A1, Stp M A H M1 A1 H1 → Rel X.K (gm X) M1 A1 ρ1 σ H1 → Fr B M1 A1 σ H1 → RvOk X.K (gm X) M1 σ H H1 x v → AccS X W B Dn (k x ρ1) → Q1 v H1) : SE X e σ H Q1 := by
  refine h ρ M A σ H _ rel ?_
  cases g : ev cx c ρ with
  | ok p =>
    rw [g] at acc
    exact fun v H1 M1 A1 s1 r1 h1 => hk p.1 p.2 v H1 M1 A1 s1 (r1.weak h1) (f.step rel s1) h1 acc
  | er x =>
    rw [g] at acc
    exact fun H1 M1 A1 s1 => acc σ H1 (f.step rel s1).e
  | no =>
    rw [g] at acc
    exact acc
theorem ixN_nat {n : Nat} {i : Int} (h0 : 0 ≤ i) (h1 : i < n) : ixN n i = some i.toNat := by
  unfold ixN
  rw [if_pos h0, if_pos h1]
theorem setItem_cases {d k v d' : D} (h : setItem d k v = some d') : (∃ xs i, d = .list xs ∧ k = .int i ∧ 0 ≤ i ∧ i < xs.length ∧ d' = .list (xs.set i.toNat v)) ∨ ∃ kvs, d = .dict kvs ∧ keyOk kvs k = true ∧ kvs.length < big ∧ d' = .dict (dput kvs k v) := by
  unfold setItem at h
  split at h
  · split at h
    · cases h
      rename_i hk
      exact .inl ⟨_, _, rfl, rfl, hk.1, hk.2, rfl⟩
    · cases h
  · split at h
    · cases h
      rename_i hk
      exact .inr ⟨_, rfl, hk.1, hk.2, rfl⟩
    · cases h
  · cases h
/-- the weakest reading of an item set -/
def SPut (X : Cx) : TSet := fun o i v H Q => ∀ pins s σ ov iv u, Inv X pins σ H s → RelV o ov → RelV i iv → RelV v u → wpAny (model X.prog X.w) X.A (PySem.setItem ov iv u) (fun _ s' => ∃ H', Inv X pins σ H' s' ∧ Q H') X.xe s
theorem pset_sput : PSet X (SPut X) := fun pins s σ H o i v ov iv u Q I ro ri rv h => h pins s σ ov iv u I ro ri rv
theorem bigLt {n : Nat} (h : n < big) : n < sizeLine := Nat.lt_of_lt_of_le h (by decide)
/-- xs[i] = v where slot a owns the list; d[k] = v where it owns the dict -/
theorem sub_core (hu : X.A.units + 65 < cLine) {a : Nat} {i : Expr} {ci : C} {vd : D} {v : V} {k : Env → F} {Q : St → Hp → Prop} (hi : SndE cx X W i ci) (rel : Rel X.K (gm X) M A ρ σ H) (f : Fr B M A σ H) (hv : Rp X.K (gm X) (hid M H) v vd) (acc : AccS X W B Dn (subGo (ev cx ci) a vd ρ k))
    (q : ∀ ρ1 H1 M1 A1, Rel X.K (gm X) M1 A1 ρ1 σ H1 → Fr B M1 A1 σ H1 → Stp M A H M1 A1 H1 → AccS X W B Dn (k ρ1) → Q σ H1) : gSub (tVar a) (SE X i) (SPut X) v σ H Q := by
  unfold subGo at acc
  obtain ⟨d0, e0, acc⟩ := acc.of
  obtain ⟨p, q1, q2, _⟩ := rel.ow a _ (owOf_eq e0)
  refine ⟨_, q1, hi.stp rel f acc fun y ρ1 w H1 M1 A1 s1 r1 f1 hw acc1 => ?_⟩
  obtain ⟨kd, e1, acc1⟩ := acc1.of
  obtain ⟨d, e2, acc1⟩ := acc1.of
  obtain ⟨d', e3, acc1⟩ := acc1.of
  have g := owOf_eq e2
  obtain ⟨p', z1, z2, hown⟩ := r1.ow a _ g
  rw [q1] at z1
  cases z1
  have hw2 := read_ok r1 hw e1
  rcases setItem_cases e3 with ⟨xs, n, rfl, rfl, h0, h1, rfl⟩ | ⟨kvs, rfl, hk, hl, rfl⟩
  · obtain ⟨ys, z3, z4⟩ := hown
    rw [hw2.int]
    obtain ⟨sst, r⟩ := Rel.put (H1 := upd H1 p (.lst (ys.set n.toNat v))) r1 g q1 (d' := .list (xs.set n.toNat vd)) ⟨_, upd_same, RpA.set (hv.ex (s1.ex rel.am)) _ z4⟩ fun b o n h => by rw [upd_ne n]; exact h
    intro pins s σ0 ov iv u I ro ri rv
    exact set_list pins s σ0 H1 _ _ _ ov iv u _ I ro ri rv ⟨p, ys, n, n.toNat, rfl, rfl, z3, ixN_nat h0 (by rw [z4.length]; exact h1), q _ _ M1 A1 r (f1.step r1 sst) (s1.trans sst) acc1⟩
  · intro pins s σ0 ov iv u I ro ri rv
    cases (show ov = Value.ref p from ro)
    have hD : DictAtG X (hid M1 H1) H1 p kvs := hown
    have mu : Mut (H1 p) := by
      rcases hD with ⟨o, kv, ha, _⟩ | ⟨o, kv, ha, _⟩ <;> (rw [ha]; exact True.intro)
    refine dI_put (units1 hu) I (dAs I hid_le hD (hw2.key hk) hk) mu ri (hw2.key hk) rv (hv.ex (s1.ex rel.am)) (bigLt hl) fun o' s' hD' I' => ?_
    obtain ⟨sst, r⟩ := Rel.put (H1 := upd H1 p o') r1 g q1 (d' := .dict (dput kvs kd vd)) hD' fun b o n h => by rw [upd_ne n]; exact h
    exact ⟨_, I', q _ _ M1 A1 r (f1.step r1 sst) (s1.trans sst) acc1⟩
/-- how an item is assigned -/
def AsgSub (X : Cx) (o i : Expr) (spos : Pos) : Prop := ∀ v, assign (.Subscript o i spos) X.env v = (do
      let ov ← holding [v] (eval o X.env)
      let iv ← holding [v, ov] (eval i X.env)
      standAt spos
      holding [v, ov, iv] (PySem.setItem ov iv v)
      release [v, ov, iv] [])
theorem snd_set (hu : X.A.units + 65 < cLine) {a : Nat} {x : Str} {i e : Expr} {ci ce : C} {p spos pos : Pos} (hN : X.N[a]? = some x) (hv : Vis X.env.scope x) (hd : (x == ("__debug__" : Str)) = false) (hcd : (x == ("__classdict__" : Str)) = false)
    (ha : AsgSub X (.Name x p) i spos) (hs : swapsWithSole [.Subscript (.Name x p) i spos] e pos.line X.env = pure false) (hi : SndE cx X W i ci) (he : SndE cx X W e ce) :
    SndS cx X W io (.Assign [.Subscript (.Name x p) i spos] e pos) (.set a ci ce) := by
  intro B hB ρ σ H Dn si acc
  obtain ⟨M, A, rel, f⟩ := si
  refine ss_of (ps_asg pe_se (pg_sub (pe_var hN hv hd hcd) pe_se pset_sput ha) hs rfl rfl) (he.stp rel f acc fun r ρ1 v H1 M1 A1 s1 r1 f1 hv1 acc1 => ?_)
  obtain ⟨pr, e2, acc1⟩ := acc1.of
  obtain ⟨M2, A2, r2, f2, hp, s2⟩ := esc_st r1 f1 hv1 e2
  exact sub_core hu hi r2 f2 hp acc1 fun ρ3 H3 M3 A3 r3 f3 s3 acc3 => acc3 σ H3 ⟨M3, A3, r3, f3⟩
theorem two_eq {α : Type} {xs : List α} {p : α × α} (h : two xs = some p) : xs = [p.1, p.2] := by
  unfold two at h
  split at h <;> cases h
  rfl
theorem snd_set2 (hu : X.A.units + 65 < cLine) {a : Nat} {x : Str} {i j : Expr} {es : List Expr} {ci cj ces : C} {p p2 spos spos2 tpos vpos pos : Pos} {kt kv : Nat} (hc : X.calm = true) (hN : X.N[a]? = some x) (hv : Vis X.env.scope x) (hd : (x == ("__debug__" : Str)) = false) (hcd : (x == ("__classdict__" : Str)) = false)
    (ha : AsgSub X (.Name x p) i spos) (hb : AsgSub X (.Name x p2) j spos2)
    (hw : swappedStores [.Tuple [.Subscript (.Name x p) i spos, .Subscript (.Name x p2) j spos2] kt tpos] (.Tuple es kv vpos) X.env = pure none) (hi : SndE cx X W i ci) (hj : SndE cx X W j cj) (hes : SndA cx X W es ces) :
    SndS cx X W io (.Assign [.Tuple [.Subscript (.Name x p) i spos, .Subscript (.Name x p2) j spos2] kt tpos] (.Tuple es kv vpos) pos) (.set2 a ci cj ces) := by
  intro B hB ρ σ H Dn si acc
  refine ss_of (ps_asg (pe_tupF pa_sa) (pg_tup (n := 2) hc (pgs_cons (pg_sub (pe_var hN hv hd hcd) pe_se pset_sput ha) (pgs_cons (pg_sub (pe_var hN hv hd hcd) pe_se pset_sput hb) pgs_nil rfl) rfl) rfl rfl) rfl hw rfl) ?_
  refine hes.stm si acc fun rs ρ1 vs H0 H1 M A q rel f hvs h0 acc1 => ?_
  obtain ⟨rs', e1, acc1⟩ := acc1.of
  cases e1
  obtain ⟨pr, e2, acc1⟩ := acc1.of
  obtain ⟨vw, e3, acc1⟩ := acc1.of
  obtain ⟨M2, A2, s2, r2, h2⟩ := escs_ok (ds := pr.1) (ρ1 := pr.2) rel hvs e2
  have f2 := f.step rel s2
  rw [two_eq e3] at h2
  cases h2 with
  | cons hv1 hr =>
    cases hr with
    | cons hv2 hr =>
      cases hr
      rename_i v w
      refine ⟨by show 2 ≤ sizeLine; decide, fun l o hl ho => ?_⟩
      have ex : Ex H1 (upd H1 l (.frz o (.tup [v, w]))) := Ex.new hl
      have sx : Stp M2 A2 H1 M2 A2 (upd H1 l (.frz o (.tup [v, w]))) := .of_ex ex
      refine ⟨l, [v, w], rfl, .inl (.inr ⟨_, upd_same⟩), rfl, v, [w], rfl, ?_⟩
      refine sub_core hu hi (r2.ex ex) (f2.step r2 sx) (hv1.ex (Ex.hid ex)) acc1 fun ρ3 H3 M3 A3 r3 f3 s3 acc3 => ?_
      refine ⟨w, [], rfl, ?_⟩
      refine sub_core hu hj r3 f3 ((hv2.ex (Ex.hid ex)).ex (s3.ex r2.am)) acc3 fun ρ4 H4 M4 A4 r4 f4 s4 acc4 => ⟨rfl, acc4 σ H4 ⟨M4, A4, r4, f4⟩⟩

/-! ### lists added to -/
theorem snd_app {x : Str} {i : Nat} {e : Expr} {c : C} {p apos cpos pos : Pos} (hN : X.N[i]? = some x) (hv : Vis X.env.scope x) (hd : (x == ("__debug__" : Str)) = false) (hcd : (x == ("__classdict__" : Str)) = false) (hline : (apos.endLine == cpos.line) = true)
    (ns : ∀ b p, e ≠ .Starred b p) (he : SndE cx X W e c) : SndS cx X W io (.Expr (.Call (.Attribute (.Name x p) "append" apos) [e] [] cpos) pos) (.app i c) := by
  intro B hB ρ σ H Dn si acc
  obtain ⟨M, A, rel, f⟩ := si
  have acc : AccS X W B Dn (lifo (lstOf (get ρ i)) fun _ => lift (ev cx c ρ) fun x ρ1 => lifo (esc ρ1 x) fun p => lifo (lstOf (get p.2 i)) fun xs =>
      if xs.length < big then .nx (p.2.set i (.ow (.list (xs ++ [p.1])))) else .no) := acc
  obtain ⟨xs0, e0, accA⟩ := acc.of
  obtain ⟨q, q1, q2, ys0, q3, q4⟩ := rel.ow i _ (lstOf_eq e0)
  refine ss_of (ps_expr (pe_bm PySem.F.plainAttrs_list PySem.F.slot_list_append PySem.F.type_list_append mt_append (pe_var hN hv hd hcd) (pa_cons pe_se pa_nil (starEach_cons ns)) rfl (few1 ns) hline (starEach_cons ns) rfl) rfl) ?_
  refine ⟨_, q1, .inl ⟨rfl, ys0, SqL.of q3⟩, he.stp rel f accA fun r ρ1 v H1 M1 A1 s1 r1 f1 hv1 acc1 => ?_⟩
  obtain ⟨pr, e2, acc2⟩ := acc1.of
  obtain ⟨xs, e3, acc3⟩ := acc2.of
  obtain ⟨M2, A2, r2, f2, hp, s2⟩ := esc_st r1 f1 hv1 e2
  have g := lstOf_eq e3
  obtain ⟨p', z1, z2, ys, z3, z4⟩ := r2.ow i _ g
  rw [q1] at z1
  cases z1
  by_cases hl : xs.length < big
  · rw [if_pos hl] at acc3
    obtain ⟨s, r⟩ := Rel.put (H1 := upd H1 q (.lst (ys ++ [v]))) r2 g q1 (d' := .list (xs ++ [pr.1])) ⟨_, upd_same, z4.append (.cons hp .nil)⟩ fun b o n h => by rw [upd_ne n]; exact h
    exact ⟨q, ys, v, rfl, rfl, z3, by rw [z4.length]; exact bigL hl, acc3 σ _ ⟨M2, A2, r, f2.step r2 s⟩⟩
  · rw [if_neg hl] at acc3
    exact acc3.elim
theorem fzI_eq {s : Slot} {i : Int} (h : fzI s = some i) : s = .fz (.int i) := by
  unfold fzI at h
  split at h <;> cases h
  rfl
theorem snd_augI {x : Str} {i : Nat} {e : Expr} {c : C} {o : Operator} {fo : Int → Int → Int} {pos' pos : Pos} (hN : X.N.Nodup) (hi : X.N[i]? = some x) (hx : Loc X.env.scope x) (hf : X.fn x = true ∨ X.env.scope.names.lookup x = some .local) (hio : io = true → i ≠ 0)
    (ho : PIp X o (ipI fo)) (hb : ∀ a b, binop o (.int a) (.int b) = some (.d (.int (fo a b)))) (he : SndE cx X W e c) : SndS cx X W io (.AugAssign (.Name x pos') o e pos) (.aug i o c) := by
  intro B hB ρ σ H Dn si acc
  obtain ⟨M, A, rel, f⟩ := si
  have acc : AccS X W B Dn (lifo (fzI (get ρ i)) fun a => lift (ev cx c ρ) fun x ρ1 => lifo (read ρ1 x) fun y => lifo (intOf y) fun b => lifo (binop o (.int a) (.int b)) fun z => lifo (store1 i z ρ1) .nx) := acc
  obtain ⟨a, e0, accA⟩ := acc.of
  obtain ⟨v, q1, q2⟩ := rel.fz i _ (fzI_eq e0)
  cases q2
  refine ss_of (ps_aug hN hi hx pe_se ho hf) ⟨_, q1, he.stp rel f accA fun r ρ1 v H1 M1 A1 s1 r1 f1 hv1 acc1 => ?_⟩
  obtain ⟨y, e1, acc1⟩ := acc1.of
  obtain ⟨b, e2, acc1⟩ := acc1.of
  obtain ⟨z, e3, acc1⟩ := acc1.of
  obtain ⟨ρ2, e4, acc1⟩ := acc1.of
  rw [hb] at e3
  cases e3
  cases e4
  have ey : y = .int b := by cases y <;> simp_all [intOf]
  rw [ey] at e1
  rw [(read_ok r1 hv1 e1).int]
  exact ⟨a, b, rfl, rfl, acc1 _ _ ⟨M1, A1, r1.setFz (.int _), f1.st (out0 hio hB)⟩⟩
theorem snd_rse {x m : Str} {C0 : Addr} {bmB : List Value} {Bn newId initId : String} {j : Nat} {p p2 cpos pos : Pos} (hc : X.calm = true) (tk : Takes X (wX X W)) (F : ExcBaseFacts Bn newId initId bmB) (q : PySem.W.excIn X.K C0 bmB newId = true) (gC : X.mg x = some (.ref C0)) (kC : PySem.W.keepIn X.K (.ref C0) = true)
    (hr : Raises X (.ref C0)) (hg : Gl X x) (hdb : (x == ("__debug__" : Str)) = false) : SndS cx X W io (.Raise (some (.Call (.Name x p) [.Constant (.str m) j p2] [] cpos)) none pos) (.rse x) := by
  intro B hB ρ σ H Dn si acc
  obtain ⟨M, A, rel, f⟩ := si
  exact ss_of (ps_raise hc tk (pmk_own F q gC kC hr hg hdb)) ⟨x, C0, gC, rfl, rfl, acc σ H f.e⟩
end
end Iv
set_option maxRecDepth 100000
set_option maxHeartbeats 4000000
/-! Iv14: loops. -/
namespace Iv
open PySem PySem.Spec PyProof.Rows L2
section
variable {X : Cx} {W : Wish} {B : Bd} {M A M1 A1 : Set} {σ : St} {H H1 : Hp} {cx : Ctx} {ρ : Env} {Dn : Ends} {io : Bool}
theorem esc_read {r : Rv} {p : D × Env} (e : esc ρ r = some p) : read ρ r = some p.1 ∧ ∀ r', read p.2 r' = read ρ r' := by
  cases r with
  | d d => cases e; exact ⟨rfl, fun _ => rfl⟩
  | f d => cases e; exact ⟨rfl, fun _ => rfl⟩
  | l rs => cases e
  | o i =>
    simp only [esc] at e
    cases g : get ρ i with
    | no => rw [g] at e; cases e
    | fz d =>
      rw [g] at e
      cases e
      exact ⟨by simp only [read, g], fun _ => rfl⟩
    | ow d =>
      rw [g] at e
      cases e
      refine ⟨by simp only [read, g], fun r' => ?_⟩
      cases r' with
      | o j =>
        simp only [read]
        rw [get_set]
        by_cases h : i = j ∧ i < ρ.length
        · rw [if_pos h, ← h.1, g]
        · rw [if_neg h]
      | d _ => rfl
      | f _ => rfl
      | l _ => rfl
theorem reads_congr {ρ' : Env} (h : ∀ r, read ρ' r = read ρ r) : ∀ rs : List Rv, reads ρ' rs = reads ρ rs
  | [] => rfl
  | r :: rs => by simp only [reads, h r, reads_congr h rs]
theorem escs_reads : ∀ {rs : List Rv} {ρ : Env} {p : List D × Env}, escs ρ rs = some p → reads ρ rs = some p.1
  | [], _, _, e => by cases e; rfl
  | r :: rs, ρ, p, e => by
    simp only [escs] at e
    obtain ⟨q, e1, e⟩ := Option.bind_eq_some_iff.mp e
    obtain ⟨t, e2, e⟩ := Option.bind_eq_some_iff.mp e
    cases e
    obtain ⟨h1, h2⟩ := esc_read e1
    have h3 := escs_reads e2
    rw [reads_congr h2] at h3
    simp [reads, h1, h3]
def Bd.at (B : Bd) (G : Hp) : Bd := { B with G := G }
theorem SI.back {G : Hp} (h : SI X (B.at G) ρ σ H) (ex : Ex B.G G) : SI X B ρ σ H :=
  let ⟨M, A, rel, f⟩ := h
  ⟨M, A, rel, ⟨f.mc, f.an, f.fr, f.th, f.p0, ex.trans f.ex⟩⟩
theorem Fr.at {G : Hp} (f : Fr B M A σ H) (ex : Ex G (hid M H)) : Fr (B.at G) M A σ H := ⟨f.mc, f.an, f.fr, f.th, f.p0, ex⟩
theorem rpA_zip {v : V} {d : D} : ∀ {vs : List V} {ds : List D}, RpA X.K (gm X) H vs ds → (v, d) ∈ vs.zip ds → Rp X.K (gm X) H v d
  | _, _, .nil, h => nomatch h
  | _, _, .cons h1 hr, h => by
    rw [List.zip_cons_cons] at h
    rcases List.mem_cons.mp h with e | h
    · cases e; exact h1
    · exact rpA_zip hr h
theorem snd_for {tge iter : Expr} {tg : Tg} {w : Wk} {cit : C} {body : List Stmt} {cb : S} {pos : Pos} (hp : PassesOwn (model X.prog X.w) X.A X.env X.xe) (hc : X.calm = true) (hs : ∀ x, foldedSetIterable iter X.env x = pure x)
    (hg : PG X tge (gT X.K tg)) (hio : io = true → 0 ∉ tgs tg) (hi : SndI cx X W tge tg iter w cit) (hb : SndSs cx X W io body cb) : SndS cx X W io (.For tge iter body [] pos) (.for tg w cit cb) := by
  intro B hB ρ σ H Dn si acc
  obtain ⟨M, A, rel, f⟩ := si
  refine ss_of (ps_for hp hc pi_si hg pss_sss hs) (hi ρ M A σ H _ rel ?_)
  have acc : AccS X W B Dn (lift (ev cx cit ρ) fun x ρ1 => lifo (listOf x) fun rs => lifo (reads ρ1 rs) fun ds => lifo (escs ρ1 rs) fun p => lifo (walked w ds) fun items => forGo (xec cx cb) tg items p.2) := acc
  cases g : ev cx cit ρ with
  | no => rw [g] at acc; exact acc
  | er x => rw [g] at acc; exact fun H1 M1 A1 s1 => acc σ H1 (f.step rel s1).e
  | ok pr =>
    obtain ⟨r, ρ1⟩ := pr
    rw [g] at acc
    obtain ⟨rs, e1, accA⟩ := AccS.of (show AccS X W B Dn (lifo (listOf r) _) from acc)
    obtain ⟨ds, e2, accB⟩ := accA.of
    obtain ⟨p, e3, accC⟩ := accB.of
    obtain ⟨items, e4, accD⟩ := accC.of
    clear acc accA accB accC
    have er : r = .l rs := by
      unfold listOf at e1
      split at e1 <;> cases e1
      rfl
    refine ⟨rs, ds, items, er, e2, e4, fun us H1 M1 A1 J s1 r1 h1 tw => ?_⟩
    have f1 := f.step rel s1
    obtain ⟨M2, A2, s2, r2, h2⟩ := escs_ok (ds := p.1) (ρ1 := p.2) r1 h1 e3
    have eds : ds = p.1 := by
      have := escs_reads e3
      rw [e2] at this
      exact Option.some.inj this
    have f2 := f1.step r1 s2
    have stay : ∀ {Mi : Set} {H' : Hp}, Ex (hid M2 H1) (hid Mi H') → ∀ a d o, (V.ref a, d) ∈ us.zip ds → kind d = 1 ∨ kind d = 2 → H1 a = some o → H' a = some o := fun {Mi H'} ex a d o hm hk ho => by
      rw [eds] at hm
      have hr := rpA_zip h2 hm
      have nm : ¬ M2 a := rp_solid hr hk
      exact hid_le a o (ex a o (hid_some.mpr ⟨nm, ho⟩))
    have ex12 : Ex (hid M1 H1) (hid M2 H1) := s2.ex r1.am
    refine for_it tw (fun i σ' H' => ∃ ρi, SI X (B.at (hid M2 H1)) ρi σ' H' ∧ AccS X W B Dn (forGo (xec cx cb) tg (items.drop i) ρi)) ⟨p.2, ⟨M2, A2, r2, f2.at (Ex.refl _)⟩, by rw [List.drop_zero]; exact accD⟩ ?_ ?_ ?_
    · rintro i σ' H' hi ⟨ρi, ⟨Mi, Ai, ri, fi⟩, _⟩
      exact stay fi.ex
    · rintro i x σ' H' H'' hi ⟨ρi, ⟨Mi, Ai, ri, fi⟩, ac⟩ ⟨exT, hbd⟩
      obtain ⟨d, hd⟩ : ∃ d, items[i]? = some d := ⟨items[i], by simp [hi]⟩
      have hdr : items.drop i = d :: items.drop (i + 1) := by
        obtain ⟨hlt, e⟩ := List.getElem?_eq_some_iff.mp hd
        rw [List.drop_eq_getElem_cons hlt, e]
      rw [hdr] at ac
      obtain ⟨ρb, eb, ac⟩ := AccS.of (show AccS X W B Dn (lifo (bindT ρi tg d) fun ρ1 => match xec cx cb ρ1 with
        | .nx ρ2 => forGo (xec cx cb) tg (items.drop (i + 1)) ρ2
        | .ct ρ2 => forGo (xec cx cb) tg (items.drop (i + 1)) ρ2
        | .bk ρ2 => .nx ρ2
        | f => f) from ac)
      have bok := hbd d Mi hd (ex12.trans fi.ex) ri.mh
      have sx : Stp Mi Ai H' Mi Ai H'' := .of_ex exT
      refine gT_ok (ri.ex exT) bok eb fun σ2 r3 ⟨vv, e5⟩ => ?_
      have f3 : Fr (B.at (hid M2 H1)) Mi Ai σ2 H'' := (fi.step ri sx).st fun hb => by
        rw [e5]
        exact setV_out (hio (hB hb))
      refine hb (B.at (hid M2 H1)) hB ρb σ2 H'' _ ⟨Mi, Ai, r3, f3⟩ ?_
      cases gx : xec cx cb ρb with
      | nx ρ2 =>
        rw [gx] at ac
        exact fun σ4 H4 s4 => ⟨ρ2, s4, ac⟩
      | ct ρ2 =>
        rw [gx] at ac
        exact fun σ4 H4 s4 => ⟨ρ2, s4, ac⟩
      | bk ρ2 =>
        rw [gx] at ac
        exact fun σ4 H4 s4 => ac σ4 H4 (s4.back f2.ex)
      | rt d' fr ρ2 =>
        rw [gx] at ac
        exact fun v σ4 H4 ⟨M4, A4, r4, f4, q4⟩ => ac v σ4 H4 ⟨M4, A4, r4, ⟨f4.mc, f4.an, f4.fr, f4.th, f4.p0, f2.ex.trans f4.ex⟩, q4⟩
      | er x' =>
        rw [gx] at ac
        exact fun σ4 H4 q4 => ac σ4 H4 q4
      | no =>
        rw [gx] at ac
        exact ac
    · rintro σ' H' ⟨ρi, si, ac⟩
      rw [List.drop_length] at ac
      exact ac σ' H' (si.back f2.ex)
theorem snd_whl {t : Expr} {ct : C} {body : List Stmt} {cb : S} {pos : Pos} (hp : PassesOwn (model X.prog X.w) X.A X.env X.xe) (ht : SndT cx X W t ct) (hb : SndSs cx X W io body cb) : SndS cx X W io (.While t body [] pos) (.whl ct cb) := by
  intro B hB ρ σ H Dn si acc
  refine ss_of (ps_while hp pt_st pss_sss) ⟨fun m σ' H' => ∃ ρi, SI X B ρi σ' H' ∧ AccS X W B Dn (whlGo (ev cx ct) (xec cx cb) m ρi), ⟨cx.fuel, ρ, si, acc⟩, ?_⟩
  rintro m σ' H' ⟨ρi, si, ac⟩
  cases m with
  | zero => exact ac.elim
  | succ m =>
    refine ht.stm si (show AccS X W B Dn (lift (ev cx ct ρi) fun b ρ1 => lifo (boolOf ρ1 b) fun
      | false => .nx ρ1
      | true => match xec cx cb ρ1 with
        | .nx ρ2 => whlGo (ev cx ct) (xec cx cb) m ρ2
        | .ct ρ2 => whlGo (ev cx ct) (xec cx cb) m ρ2
        | .bk ρ2 => .nx ρ2
        | f => f) from ac) fun b ρ1 H1 si1 ac1 => ?_
    obtain ⟨b', e, ac1⟩ := ac1.of
    have e : some b = some b' := e
    cases e
    cases b with
    | false =>
      rw [if_neg (by decide)]
      exact ac1 σ' H1 si1
    | true =>
      rw [if_pos rfl]
      refine ⟨fun σ4 H4 => ∃ ρi, SI X B ρi σ4 H4 ∧ AccS X W B Dn (whlGo (ev cx ct) (xec cx cb) m ρi), fun σ4 H4 q => ⟨m, Nat.lt_succ_self _, q⟩, ?_⟩
      refine hb B hB ρ1 σ' H1 _ si1 ?_
      cases gx : xec cx cb ρ1 with
      | nx ρ2 => rw [gx] at ac1; exact fun σ4 H4 s4 => ⟨ρ2, s4, ac1⟩
      | ct ρ2 => rw [gx] at ac1; exact fun σ4 H4 s4 => ⟨ρ2, s4, ac1⟩
      | bk ρ2 => rw [gx] at ac1; exact ac1
      | rt d' fr ρ2 => rw [gx] at ac1; exact ac1
      | er x' => rw [gx] at ac1; exact ac1
      | no => rw [gx] at ac1; exact ac1
end
end Iv
set_option maxRecDepth 100000
set_option maxHeartbeats 4000000
/-! Iv15: an own def keeps its promise. -/
namespace Iv
open PySem PySem.Spec PyProof.Rows L2
section
variable {K : PySem.W.Frag} {mg : MG} {M : Set} {H : Hp}
/-- what is wanted where the def's body raises -/
def WB (mg : MG) (E : XK) : Wish := fun x _ H => ∀ a, mg x = some (.ref a) → E (.ref a) none H
theorem wB_out {X : Cx} {E : XK} {cls : Value} {d : Option Addr} {σ : St} (hm : gm X = mg) (h : wX X (WB mg E) cls d σ H) : E cls d H := by
  obtain ⟨x, a, h1, rfl, rfl, h2⟩ := h
  subst hm
  exact h2 a h1
theorem getD_fz {ds : List D} {n i : Nat} {d : D} (h : get (ds.map Slot.fz ++ List.replicate n .no) i = .fz d) : ds[i]? = some d := by
  unfold get at h
  rw [List.getD_eq_getElem?_getD, List.getElem?_append] at h
  split at h
  · rw [List.getElem?_map] at h
    cases e : ds[i]? with
    | none => rw [e] at h; cases h
    | some d' => rw [e] at h; cases h; rfl
  · rw [List.getElem?_replicate] at h
    split at h <;> cases h
theorem getD_ow {ds : List D} {n i : Nat} {d : D} (h : get (ds.map Slot.fz ++ List.replicate n .no) i = .ow d) : False := by
  unfold get at h
  rw [List.getD_eq_getElem?_getD, List.getElem?_append] at h
  split at h
  · rw [List.getElem?_map] at h
    cases e : ds[i]? with
    | none => rw [e] at h; cases h
    | some d' => rw [e] at h; cases h
  · rw [List.getElem?_replicate] at h
    split at h <;> cases h
theorem start_get {N : List Str} {vs : List V} {i : Nat} {v : V} (h : vs[i]? = some v) : (start N vs)[i]? = some (some v) := by
  unfold L2.start
  rw [List.getElem?_append_left (by rw [List.length_map]; exact (List.getElem?_eq_some_iff.mp h).1), List.getElem?_map, h]
  rfl
theorem start_len {N : List Str} {vs : List V} : (start N vs).length = vs.length + (N.length - vs.length) := by simp [L2.start]
/-- the entry without an in-out object -/
theorem entry_rel {N : List Str} {vs : List V} {ds : List D} (hm : ∀ a, M a → ∃ o, H a = some o) (h : RpA K mg (hid M H) vs ds) : Rel K mg M (fun _ => False) (entry N.length false ds) (start N vs) H := by
  have hl := h.length
  refine ⟨?_, fun a z => z.elim, hm, fun i d g => ?_, fun i d g => (getD_ow g).elim, fun i j d e p g => (getD_ow g).elim⟩
  · rw [start_len]
    simp [entry, hl]
  · obtain ⟨v, h1, h2⟩ := h.get (getD_fz g)
    exact ⟨v, start_get h1, h2⟩
theorem get_cons {s : Slot} {ρ : Env} {i : Nat} : get (s :: ρ) (i + 1) = get ρ i := by
  unfold get
  rw [List.getD_eq_getElem?_getD, List.getD_eq_getElem?_getD, List.getElem?_cons_succ]
theorem entry_relIo {N : List Str} {vs : List V} {ds : List D} {p : Addr} {b : D} (hm : ∀ a, M a → ∃ o, H a = some o) (hp : M p) (hb : Own K mg (hid M H) H p b) (h : RpA K mg (hid M H) vs ds) :
    Rel K mg M (fun a => a = p) (entry N.length true (b :: ds)) (start N (.ref p :: vs)) H := by
  have hl := h.length
  have ee : entry N.length true (b :: ds) = .ow b :: (ds.map .fz ++ List.replicate (N.length - (ds.length + 1)) .no) := by
    unfold entry
    rw [List.cons_append]
    rfl
  rw [ee]
  refine ⟨?_, fun a z => by rw [show a = p from z]; exact hp, hm, fun i d g => ?_, fun i d g => ?_, fun i j d e q g1 g2 _ _ => ?_⟩
  · rw [start_len]
    simp [hl]
    omega
  · cases i with
    | zero => cases g
    | succ i =>
      rw [get_cons] at g
      obtain ⟨v, h1, h2⟩ := h.get (getD_fz g)
      exact ⟨v, start_get (by simpa using h1), h2⟩
  · cases i with
    | zero => cases g; exact ⟨p, start_get rfl, rfl, hb⟩
    | succ i =>
      rw [get_cons] at g
      exact (getD_ow g).elim
  · cases i with
    | succ i => rw [get_cons] at g1; exact (getD_ow g1).elim
    | zero =>
      cases j with
      | succ j => rw [get_cons] at g2; exact (getD_ow g2).elim
      | zero => rfl
variable {base : Heap}
theorem fn_ok {x qual : Str} {st : Stmt} {f : Addr} {fd : FuncData} {N ps : List Str} {k : Nat} {fi : FI} {cx : Ctx} {c : S} (F : Fun K x qual st f fd) (S : FnScope N ps (defScope st)) (hn : fi.n = ps.length)
    (hbody : ∀ (cdv : Value) (A : Around) (outer : List PySem.Env) (s : Shared) (H : Hp) (E : XK), Room k (A.deeper (envOfC qual (defScope st) s.heap.objs.size f cdv)) →
      SndSs cx (cxOf (L2.CX mg.P mg.w) mg.P mg.w K mg.f base N qual (defScope st) f cdv A outer s H E) (WB mg E) fi.io (defBody st) c)
    (hsem : ∀ ds, fi.sem ds = run cx N.length fi.io c ds) : FnOk mg.P mg.w K mg.f base (L2.CX mg.P mg.w) (k + 1) f fd ps (spF K mg fi) := by
  refine F.okX S (spF_len hn) fun cdv A outer s H vs Q E hr ⟨hl, M, hm, sp⟩ => ⟨_, pss_sss, ?_⟩
  have hb := hbody cdv A outer s H E hr
  cases hio : fi.io with
  | false =>
    simp only [hio] at sp hb hsem
    obtain ⟨ds, hds, sp⟩ := sp
    refine hb { Mc := M, H0 := H, io := false, p0 := 0, G := hid M H, mh := hm } (fun h => h) (entry N.length false ds) _ H _
      ⟨M, fun _ => False, entry_rel hm hds, ⟨fun a z _ => z, fun a z => z.elim, fun a o _ e => e, fun a o e => ⟨o, e⟩, (fun h => nomatch h), Ex.refl _⟩⟩ ?_
    have no : ∀ a, ¬ Bd.out { Mc := M, H0 := H, io := false, p0 := 0, G := hid M H, mh := hm } a := fun a z => nomatch z.1
    rw [hsem] at sp
    unfold run at sp
    cases g : xec cx c (entry N.length false ds) with
    | nx ρ1 =>
      rw [g] at sp
      exact fun σ H1 ⟨M1, A1, r1, f1⟩ => sp .non H1 (fun a o e => f1.fr a o (no a) e) .non
    | rt d fr ρ1 =>
      rw [g] at sp
      intro v σ H1 ⟨M1, A1, r1, f1, h1⟩
      refine sp v H1 (fun a o e => f1.fr a o (no a) e) ?_
      cases fr with
      | false => exact Rp.ex (hid_mono (fun a z => f1.mc a z (no a)) fun _ _ _ e => e) h1
      | true =>
        obtain ⟨p, rfl, hp, mp, _, ho⟩ := h1
        exact ⟨p, rfl, hp.resolve_right (no p), ho.ex (hid_mono (fun a z => z.elim (fun e => e ▸ mp) fun z => f1.mc a z (no a)) fun _ _ _ e => e) rfl⟩
    | bk ρ1 => rw [g] at sp; exact sp.elim
    | ct ρ1 => rw [g] at sp; exact sp.elim
    | er x =>
      rw [g] at sp
      exact fun σ H1 f1 a ha => sp a H1 ha fun b o e => f1 b o (no b) e
    | no => rw [g] at sp; exact sp.elim
  | true =>
    simp only [hio] at sp hb hsem
    obtain ⟨p, ws, b, ds, rfl, hMp, hob, hds, sp⟩ := sp
    refine hb { Mc := M, H0 := H, io := true, p0 := p, G := hid M H, mh := hm } (fun h => h) (entry N.length true (b :: ds)) _ H _
      ⟨M, fun a => a = p, entry_relIo hm hMp hob hds, ⟨fun a z _ => z, fun a z => .inr ⟨rfl, z⟩, fun a o _ e => e, fun a o e => ⟨o, e⟩, fun _ => start_get rfl, Ex.refl _⟩⟩ ?_
    have out : ∀ a, Bd.out { Mc := M, H0 := H, io := true, p0 := p, G := hid M H, mh := hm } a → a = p := fun a z => z.2
    rw [hsem] at sp
    unfold run at sp
    cases g : xec cx c (entry N.length true (b :: ds)) with
    | nx ρ1 =>
      rw [g] at sp
      intro σ H1 ⟨M1, A1, r1, f1⟩
      cases g0 : get ρ1 0 with
      | ow b' =>
        simp only [g0] at sp
        obtain ⟨q, q1, q2, q3⟩ := r1.ow 0 _ g0
        have := f1.p0 rfl
        rw [q1] at this
        cases this
        refine sp .non H1 (fun a o n e => f1.fr a o (fun z => n (out a z)) e) (q3.ex (hid_mono (fun a z => ?_) fun _ _ _ e => e) rfl) .non
        rcases z with z | z
        · exact nomatch z.1
        · by_cases e : a = p
          · exact e ▸ r1.am p q2
          · exact f1.mc a z fun y => e (out a y)
      | fz _ => simp only [g0] at sp; exact sp.elim
      | no => simp only [g0] at sp; exact sp.elim
    | rt d fr ρ1 =>
      rw [g] at sp
      intro v σ H1 ⟨M1, A1, r1, f1, h1⟩
      cases g0 : get ρ1 0 with
      | ow b' =>
        simp only [g0] at sp
        obtain ⟨q, q1, q2, q3⟩ := r1.ow 0 _ g0
        have := f1.p0 rfl
        rw [q1] at this
        cases this
        have mm : ∀ a, M a → M1 a := fun a z => by
          by_cases e : a = p
          · exact e ▸ r1.am p q2
          · exact f1.mc a z fun y => e (out a y)
        cases fr with
        | false =>
          exact sp v H1 (fun a o n e => f1.fr a o (fun z => n (out a z)) e) (q3.ex (hid_mono (fun a z => z.elim (fun z => nomatch z.1) (mm a)) fun _ _ _ e => e) rfl) (Rp.ex (hid_mono mm fun _ _ _ e => e) h1)
        | true =>
          obtain ⟨p', rfl, hp, mp, nA, ho⟩ := h1
          have hne : p' ≠ p := fun e => nA (e ▸ q2)
          refine sp _ H1 (fun a o n e => f1.fr a o (fun z => n (out a z)) e) (q3.ex (hid_mono (fun a z => z.elim (fun z => by cases z.2; exact mp) (mm a)) fun _ _ _ e => e) rfl) ⟨p', rfl, hp.resolve_right fun z => hne (out _ z), ho.ex (hid_mono (fun a z => z.elim (fun e => e ▸ mp) (mm a)) fun _ _ _ e => e) rfl⟩
      | fz _ => simp only [g0] at sp; exact sp.elim
      | no => simp only [g0] at sp; exact sp.elim
    | bk ρ1 => rw [g] at sp; exact sp.elim
    | ct ρ1 => rw [g] at sp; exact sp.elim
    | er x => rw [g] at sp; exact sp.elim
    | no => rw [g] at sp; exact sp.elim
end
end Iv
set_option maxRecDepth 100000
set_option maxHeartbeats 4000000
/-! Iv16: facts of the code's form; list(range(n)). -/
namespace Iv
open PySem PySem.Spec PyProof.Rows L2

theorem asg_sub {X : Cx} {o i : Expr} {p : Pos} (h : ∀ a b c p, i ≠ .Slice a b c p) : AsgSub X o i p := by
  intro v
  cases i <;> first | rfl | exact absurd rfl (h _ _ _ _)
def isComp : Expr → Bool
  | .ListComp .. => true
  | .SetComp .. => true
  | .DictComp .. => true
  | _ => false
theorem sw1 {e : Expr} {t : Option Expr} {n : Nat} {env : PySem.Env} (h : isComp e = false) : swapsWith e t n env = pure false := by
  cases e <;> first | rfl | cases h
def isSet : Expr → Bool
  | .Set .. => true
  | _ => false
theorem fs1 {e : Expr} {env : PySem.Env} (h : isSet e = false) : ∀ x, foldedSetIterable e env x = pure x := by
  intro x
  cases e <;> first | rfl | cases h
def isTup : Expr → Bool
  | .Tuple .. => true
  | _ => false
theorem ss0 {ts : List Expr} {k : Nat} {p : Pos} {e : Expr} {env : PySem.Env} (h : isTup e = false) : swappedStores [.Tuple ts k p] e env = pure none := by
  cases e <;> first | rfl | cases h
theorem ss_sub {a b c d : Expr} {p1 p2 p3 : Pos} {es : List Expr} {k k2 : Nat} {pv : Pos} {env : PySem.Env} : swappedStores [.Tuple [.Subscript a b p1, .Subscript c d p2] k p3] (.Tuple es k2 pv) env = pure none := by
  unfold swappedStores
  simp only [List.length_cons, List.length_nil, List.filterMap_cons, List.filterMap_nil]
  split
  · rfl
  · simp
theorem bk_fn {env : PySem.Env} (h : env.scope.kind = .function) : env.blockKind = .function := by unfold Env.blockKind; rw [h]; rfl
def isStar : Expr → Bool
  | .Starred .. => true
  | _ => false
theorem notStar {e : Expr} (h : isStar e = false) : ∀ a p, e ≠ .Starred a p := by
  rintro a p rfl
  cases h
def isSlice : Expr → Bool
  | .Slice .. => true
  | _ => false
theorem notSlice {e : Expr} (h : isSlice e = false) : ∀ a b c p, e ≠ .Slice a b c p := by
  rintro a b c p rfl
  cases h
theorem any_star (es : List Expr) : (es.any fun | .Starred .. => true | _ => false) = es.any isStar := by
  congr 1
theorem ss_par2 {x y : Str} {px py pt pv : Pos} {a b : Expr} {k k2 : Nat} {env : PySem.Env} (hk : env.scope.kind = .function) (hx : env.scope.names.lookup x = some .local) (hy : env.scope.names.lookup y = some .local) (hl : (py.line == px.line) = true) (hd : ([x, y] : List Str).eraseDups.length = 2)
    (hs : ([a, b].any isStar) = false) (hf : ([a, b].all (foldedForSure 8)) = false) (hc : ([a, b].all (constantsAlone 8)) = false) :
    swappedStores [.Tuple [.Name x px, .Name y py] k pt] (.Tuple [a, b] k2 pv) env = pure (some [x, y]) := by
  have kx : env.kindOf x = some .local := hx
  have ky : env.kindOf y = some .local := hy
  rw [← any_star] at hs
  unfold swappedStores
  simp only [bk_fn hk, List.filterMap_cons, List.filterMap_nil, kx, ky, List.head?_cons, Option.map_some, Option.getD_some, Expr.pos, hl, BEq.rfl, Bool.and_self, if_true, hf, hc, hd, List.length_cons, List.length_nil]
  refine (if_neg (by decide)).trans ((if_neg fun h => Bool.noConfusion (hs.symm.trans h)).trans rfl)
theorem ss_par3 {x y z : Str} {px py pz pt pv : Pos} {a b c : Expr} {k k2 : Nat} {env : PySem.Env} (hk : env.scope.kind = .function) (hx : env.scope.names.lookup x = some .local) (hy : env.scope.names.lookup y = some .local) (hz : env.scope.names.lookup z = some .local) (hl : (py.line == px.line) = true) (hl2 : (pz.line == px.line) = true) (hd : ([x, y, z] : List Str).eraseDups.length = 3)
    (hs : ([a, b, c].any isStar) = false) (hf : ([a, b, c].all (foldedForSure 8)) = false) (hc : ([a, b, c].all (constantsAlone 8)) = false) :
    swappedStores [.Tuple [.Name x px, .Name y py, .Name z pz] k pt] (.Tuple [a, b, c] k2 pv) env = pure (some [x, y, z]) := by
  have kx : env.kindOf x = some .local := hx
  have ky : env.kindOf y = some .local := hy
  have kz : env.kindOf z = some .local := hz
  rw [← any_star] at hs
  unfold swappedStores
  simp only [bk_fn hk, List.filterMap_cons, List.filterMap_nil, kx, ky, kz, List.head?_cons, Option.map_some, Option.getD_some, Expr.pos, hl, hl2, BEq.rfl, Bool.and_self, if_true, hf, hc, hd, List.length_cons, List.length_nil]
  refine (if_neg (by decide)).trans ((if_neg fun h => Bool.noConfusion (hs.symm.trans h)).trans rfl)
def plainT : Expr → Bool
  | .UnaryOp .Not _ _ => false
  | .BoolOp .. => false
  | .IfExp .. => false
  | .Compare .. => false
  | _ => true
theorem plainT_ok {e : Expr} (h : plainT e = true) : PlainT e := by
  intro env whole
  cases e with
  | UnaryOp op a p => cases op <;> first | rfl | cases h
  | BoolOp _ _ _ => cases h
  | IfExp _ _ _ _ => cases h
  | Compare _ _ _ _ => cases h
  | _ => rfl
section
variable {X : Cx} {W : Wish} {M A M1 A1 : Set} {σ : St} {H H1 : Hp} {cx : Ctx} {ρ : Env}
theorem rgV_rp (n : Int) : RpA X.K (gm X) H (rgV 0 n) ((List.range n.toNat).map fun (i : Nat) => .int (i : Int)) := by
  unfold rgV
  rw [Int.sub_zero]
  generalize List.range n.toNat = l
  induction l with
  | nil => exact .nil
  | cons i l ih =>
    rw [List.map_cons, List.map_cons, Int.zero_add]
    exact .cons (.int _) ih
theorem snd_lrange {a : Expr} {c : C} {p p2 q pos : Pos} (hc : X.calm = true) (hg : Gl X "list") (hm : X.mg "list" = none) (hg2 : Gl X "range") (hm2 : X.mg "range" = none) (ns : ∀ b p, a ≠ .Starred b p) (ha : SndE cx X W a c) :
    SndE cx X W (.Call (.Name "list" p) [.Call (.Name "range" p2) [a] [] q] [] pos) (.bi .lrange (.cons c .nil)) := by
  intro ρ M A σ H Q rel acc
  refine se_of (pe_listRg hc hg hm (prg_1 hg2 hm2 pe_se (starEach_cons ns))) ?_
  have acc : AccE X W M A σ H (((ev cx (.cons c .nil) ρ).bd fun x ρ1 => got (listOf x) fun rs => got (reads ρ1 rs) fun ds => got (builtin .lrange ds) fun z => .ok (z, ρ1))) Q := acc
  refine ha.bind rel (acc_one acc) fun x ρ1 v H1 M1 A1 s1 r1 h1 acc1 => ?_
  obtain ⟨rs, e1, acc1⟩ := acc1.of
  cases e1
  obtain ⟨ds, e2, acc1⟩ := acc1.of
  obtain ⟨z, e3, acc1⟩ := acc1.of
  simp only [reads] at e2
  obtain ⟨d, e4, e5⟩ := Option.bind_eq_some_iff.mp e2
  cases e5
  have e3 : fLrange d = some z := e3
  unfold fLrange at e3
  split at e3
  · split at e3
    · rename_i n _ hn
      cases e3
      rw [(read_ok r1 h1 e4).int]
      have hb : (big : Int) = 10000000 := rfl
      exact ⟨n, rfl, RgOk.of_le (by omega) (by omega) (by omega) hn.1, fun l hl => acc1.newL r1 (rgV_rp n) hl⟩
    · cases e3
  · cases e3
end
end Iv
set_option maxRecDepth 100000
set_option maxHeartbeats 4000000
/-! Iv17: from the syntax to code: expressions. -/
namespace Iv
open PySem PySem.Spec PyProof.Rows L2

structure Nm where
  N : List Str
  sc : Scope
  cs : List Str
  fs : List (Str × (Nat × Nat))
  ks : List (Str × Int)
  es : List Str
  io : Bool
def bis : List Str := ["len", "sum", "all", "max", "min", "sorted", "tuple", "list", "int", "isinstance", "set", "range", "enumerate", "zip", "bool", "str", "dict"]
structure Good (cx : Ctx) (nm : Nm) (X : Cx) (W : Wish) : Prop where
  N : X.N = nm.N
  nd : X.N.Nodup
  sc : X.env.scope = nm.sc
  kind : X.env.scope.kind = .function
  calm : X.calm = true
  fn : ∀ x ∈ nm.cs, X.fn x = true
  hu : X.A.units + 150 < cLine
  fs : ∀ x i n, nm.fs.lookup x = some (i, n) → ∃ fi, cx.fs[i]? = some fi ∧ fi.n = n ∧ FnAt X fi x
  ks : ∀ x d, nm.ks.lookup x = some d → ∃ t, X.mg x = some (.int d t)
  bi : ∀ x ∈ bis, X.mg x = none
  tk : Takes X (wX X W)

/-! ### names -/
def plainN (x : Str) : Bool := !(x == ("__debug__" : Str)) && !(x == ("__classdict__" : Str)) && !decide (x = ("__name__" : Str))
def glob (nm : Nm) (x : Str) : Bool := plainN x && decide (nm.sc.names.lookup x = some .globalImplicit)
def slot (nm : Nm) (x : Str) : Option Nat :=
  if plainN x = true ∧ (nm.sc.names.lookup x = some .local ∨ nm.sc.names.lookup x = some .cell ∨ nm.sc.names.lookup x = some .free) then
    (nm.N.findIdx? (· == x)).bind fun i => if nm.N[i]? = some x then some i else none
  else none
/-- .. that may be stored -/
def slotS (nm : Nm) (x : Str) : Option Nat := if nm.sc.names.lookup x = some .local ∨ nm.sc.names.lookup x = some .cell ∧ x ∈ nm.cs then slot nm x else none
structure Rc where
  e : Nm → Expr → Option C
  t : Nm → Expr → Option C
structure RcOk (cx : Ctx) (r : Rc) : Prop where
  e : ∀ {nm X W e c}, Good cx nm X W → r.e nm e = some c → SndE cx X W e c
  t : ∀ {nm X W e c}, Good cx nm X W → r.t nm e = some c → SndT cx X W e c

section
variable {cx : Ctx} {nm : Nm} {X : Cx} {W : Wish} {r : Rc}
theorem ite_some {α : Type} {p : Prop} [Decidable p] {o : Option α} {a : α} (h : (if p then o else none) = some a) : p ∧ o = some a := by
  by_cases hp : p
  · rw [if_pos hp] at h; exact ⟨hp, h⟩
  · rw [if_neg hp] at h; cases h
theorem plainN_ok {x : Str} (h : plainN x = true) : (x == ("__debug__" : Str)) = false ∧ (x == ("__classdict__" : Str)) = false ∧ x ≠ "__name__" := by
  unfold plainN at h
  simp only [Bool.and_eq_true, Bool.not_eq_true', decide_eq_false_iff_not] at h
  exact ⟨h.1.1, h.1.2, h.2⟩
theorem glob_ok (G : Good cx nm X W) {x : Str} (h : glob nm x = true) : Gl X x ∧ (x == ("__debug__" : Str)) = false ∧ x ≠ "__name__" := by
  unfold glob at h
  simp only [Bool.and_eq_true, decide_eq_true_eq] at h
  obtain ⟨h1, h2, h3⟩ := plainN_ok h.1
  refine ⟨?_, h1, h3⟩
  show X.env.scope.names.lookup x = _
  rw [G.sc]
  exact h.2
theorem slot_ok (G : Good cx nm X W) {x : Str} {i : Nat} (h : slot nm x = some i) : X.N[i]? = some x ∧ Vis X.env.scope x ∧ (x == ("__debug__" : Str)) = false ∧ (x == ("__classdict__" : Str)) = false := by
  unfold slot at h
  obtain ⟨⟨h1, h2⟩, h⟩ := ite_some h
  obtain ⟨j, _, h⟩ := Option.bind_eq_some_iff.mp h
  obtain ⟨h3, h⟩ := ite_some h
  cases h
  obtain ⟨q1, q2, _⟩ := plainN_ok h1
  refine ⟨by rw [G.N]; exact h3, ?_, q1, q2⟩
  rw [← G.sc] at h2
  exact h2
theorem slotS_ok (G : Good cx nm X W) {x : Str} {i : Nat} (h : slotS nm x = some i) : X.N[i]? = some x ∧ Loc X.env.scope x ∧ (X.fn x = true ∨ X.env.scope.names.lookup x = some .local) := by
  unfold slotS at h
  obtain ⟨h1, h⟩ := ite_some h
  rw [← G.sc] at h1
  refine ⟨(slot_ok G h).1, h1.imp id (·.1), ?_⟩
  rcases h1 with h1 | h1
  · exact .inr h1
  · exact .inl (G.fn x h1.2)
/-- the names that are cells of the scope itself -/
def cellsOf (sc : Scope) : List Str := (sc.names.filter fun p => sc.names.lookup p.1 == some .cell).map (·.1)
theorem cellsOf_ok {sc : Scope} {x : Str} (h : x ∈ cellsOf sc) : (sc.names.lookup x == some .cell) = true := by
  obtain ⟨p, hp, rfl⟩ := List.mem_map.mp h
  exact (List.mem_filter.mp hp).2
def cName (nm : Nm) (x : Str) : Option C := match slot nm x with
  | some i => some (.v i)
  | none => if glob nm x = true then (match nm.ks.lookup x with
    | some d => some (.k (.int d))
    | none => (nm.fs.lookup x).map fun _ => .k (fnD x)) else none
theorem cName_ok (G : Good cx nm X W) {x : Str} {p : Pos} {c : C} (h : cName nm x = some c) : SndE cx X W (.Name x p) c := by
  unfold cName at h
  split at h
  · rename_i i hi
    cases h
    obtain ⟨h1, h2, h3, h4⟩ := slot_ok G hi
    exact snd_v h1 h2 h3 h4
  · obtain ⟨hg, h⟩ := ite_some h
    obtain ⟨q1, q2, _⟩ := glob_ok G hg
    split at h
    · rename_i d hd
      cases h
      obtain ⟨t, ht⟩ := G.ks x d hd
      exact snd_glob q1 ht q2
    · obtain ⟨⟨i, n⟩, hf, rfl⟩ := Option.map_eq_some_iff.mp h
      obtain ⟨fi, _, _, k, f, fd, ps, hm, _⟩ := G.fs x i n hf
      exact snd_fn q1 hm q2
def cConst : Const → Option C
  | .none => some (.k .none)
  | .bool b => some (.k (.bool b))
  | .int i => some (.k (.int i))
  | .str s => some (.k (.str s))
  | _ => none
theorem cConst_ok {v : Const} {k : Nat} {p : Pos} {c : C} (h : cConst v = some c) : SndE cx X W (.Constant v k p) c := by
  cases v <;> cases h
  · exact snd_non
  · exact snd_bl
  · exact snd_int
  · exact snd_str

/-! ### and, or -/
def cBools (r : Rc) (nm : Nm) (o : BoolOp) : List Expr → Option C
  | [] => none
  | [e] => r.e nm e
  | e :: es => (r.e nm e).bind fun a => (cBools r nm o es).bind fun b => some (match o with | .And => .andv a b | .Or => .orv a b)
theorem cBools_ok (R : RcOk cx r) (G : Good cx nm X W) {o : BoolOp} {p : Pos} : ∀ {es : List Expr} {c : C}, cBools r nm o es = some c → SndE cx X W (.BoolOp o es p) c
  | [], _, h => by cases h
  | [e], _, h => snd_one (R.e G h)
  | e :: e2 :: es, _, h => by
    unfold cBools at h
    obtain ⟨a, ha, h⟩ := Option.bind_eq_some_iff.mp h
    obtain ⟨b, hb, h⟩ := Option.bind_eq_some_iff.mp h
    cases h
    have hb := cBools_ok R G (p := p) hb
    cases o with
    | And => exact snd_and (R.e G ha) hb
    | Or => exact snd_or (R.e G ha) hb
def cBoolT (r : Rc) (nm : Nm) (o : BoolOp) : List Expr → Option C
  | [] => none
  | [e] => r.t nm e
  | e :: es => (r.t nm e).bind fun a => (cBoolT r nm o es).bind fun b => some (match o with | .And => .andt a b | .Or => .ort a b)
theorem cBoolT_ok (R : RcOk cx r) (G : Good cx nm X W) {o : BoolOp} {p : Pos} : ∀ {es : List Expr} {c : C}, cBoolT r nm o es = some c → SndW cx X W (.BoolOp o es p) c
  | [], _, h => by cases h
  | [e], _, h => by
    cases o with
    | And => exact sndW_and1 (R.t G h)
    | Or => exact sndW_or1 (R.t G h)
  | e :: e2 :: es, _, h => by
    unfold cBoolT at h
    obtain ⟨a, ha, h⟩ := Option.bind_eq_some_iff.mp h
    obtain ⟨b, hb, h⟩ := Option.bind_eq_some_iff.mp h
    cases h
    have hb := cBoolT_ok R G (p := p) hb
    cases o with
    | And => exact sndW_and (R.t G ha) hb
    | Or => exact sndW_or (R.t G ha) hb

/-! ### argument lists -/
def cArgs (r : Rc) (nm : Nm) : List Expr → Option C
  | [] => some .nil
  | e :: es => if isStar e = false then (r.e nm e).bind fun a => (cArgs r nm es).bind fun b => some (.cons a b) else none
theorem cArgs_ok (R : RcOk cx r) (G : Good cx nm X W) : ∀ {es : List Expr} {c : C}, cArgs r nm es = some c → SndA cx X W es c ∧ (∀ e ∈ es, ∀ a p, e ≠ .Starred a p) ∧ ∀ ρ rs ρ1, ev cx c ρ = .ok (.l rs, ρ1) → rs.length = es.length
  | [], _, h => by
    cases h
    refine ⟨sndA_nil, (fun e z => nomatch z), fun ρ rs ρ1 z => ?_⟩
    cases z
    rfl
  | e :: es, _, h => by
    unfold cArgs at h
    obtain ⟨h1, h⟩ := ite_some h
    obtain ⟨a, ha, h⟩ := Option.bind_eq_some_iff.mp h
    obtain ⟨b, hb, h⟩ := Option.bind_eq_some_iff.mp h
    cases h
    obtain ⟨q1, q2, q3⟩ := cArgs_ok R G hb
    refine ⟨sndA_cons (notStar h1) (R.e G ha) q1, fun e' z => ?_, fun ρ rs ρ1 z => ?_⟩
    · rcases List.mem_cons.mp z with rfl | z
      · exact notStar h1
      · exact q2 e' z
    · have z : ((ev cx a ρ).bd fun x ρ1 => (ev cx b ρ1).bd fun y ρ2 => got (listOf y) fun ys => (Iv.R.ok (Rv.l (x :: ys), ρ2) : Iv.R (Rv × Env))) = .ok (.l rs, ρ1) := z
      cases g1 : ev cx a ρ with
      | no => rw [g1] at z; cases z
      | er x => rw [g1] at z; cases z
      | ok p1 =>
        rw [g1] at z
        have z : ((ev cx b p1.2).bd fun y ρ2 => got (listOf y) fun ys => (Iv.R.ok (Rv.l (p1.1 :: ys), ρ2) : Iv.R (Rv × Env))) = .ok (.l rs, ρ1) := z
        cases g2 : ev cx b p1.2 with
        | no => rw [g2] at z; cases z
        | er x => rw [g2] at z; cases z
        | ok p2 =>
          rw [g2] at z
          have z : (got (listOf p2.1) fun ys => (Iv.R.ok (Rv.l (p1.1 :: ys), p2.2) : Iv.R (Rv × Env))) = .ok (.l rs, ρ1) := z
          obtain ⟨y, ρ2⟩ := p2
          cases y with
          | l ys =>
            cases z
            simp [q3 p1.2 ys ρ2 g2]
          | d _ => cases z
          | f _ => cases z
          | o _ => cases z

/-! ### operators, comparisons -/
def cCmp (r : Rc) (nm : Nm) (a : Expr) : List CmpOp → List Expr → Option C
  | [o], [b] => if behindInMarks o b = false then (r.e nm a).bind fun ca => (r.e nm b).bind fun cb => some (.cmp o ca cb) else none
  | [o, o'], [b, c] => if lastMarks [o, o'] [b, c] = false then (r.e nm a).bind fun ca => (r.e nm b).bind fun cb => (r.e nm c).bind fun cc => some (.ch o o' ca cb cc) else none
  | _, _ => none
theorem cCmp_ok (R : RcOk cx r) (G : Good cx nm X W) {a : Expr} {os : List CmpOp} {bs : List Expr} {p : Pos} {c : C} (h : cCmp r nm a os bs = some c) : SndE cx X W (.Compare a os bs p) c ∧ SndT cx X W (.Compare a os bs p) (.tr c) := by
  have hu : X.A.units + 65 < cLine := by have := G.hu; omega
  unfold cCmp at h
  split at h
  · obtain ⟨h1, h⟩ := ite_some h
    obtain ⟨ca, ha, h⟩ := Option.bind_eq_some_iff.mp h
    obtain ⟨cb, hb, h⟩ := Option.bind_eq_some_iff.mp h
    cases h
    exact ⟨snd_cmp hu h1 (R.e G ha) (R.e G hb), sndT_cmp hu h1 (R.e G ha) (R.e G hb)⟩
  · obtain ⟨h1, h⟩ := ite_some h
    obtain ⟨ca, ha, h⟩ := Option.bind_eq_some_iff.mp h
    obtain ⟨cb, hb, h⟩ := Option.bind_eq_some_iff.mp h
    obtain ⟨cc, hc, h⟩ := Option.bind_eq_some_iff.mp h
    cases h
    exact ⟨snd_ch hu h1 (R.e G ha) (R.e G hb) (R.e G hc), sndT_ch hu h1 (R.e G ha) (R.e G hb) (R.e G hc)⟩
  · cases h
def cOpt (r : Rc) (nm : Nm) : Option Expr → Option C
  | none => some (.k .none)
  | some e => (r.e nm e).map .pt
theorem cOpt_ok (R : RcOk cx r) (G : Good cx nm X W) {e : Option Expr} {c : C} (h : cOpt r nm e = some c) : SndO cx X W e c := by
  cases e with
  | none => cases h; exact .non
  | some e =>
    obtain ⟨a, ha, rfl⟩ := Option.map_eq_some_iff.mp h
    exact .som (R.e G ha)
def cSub (r : Rc) (nm : Nm) (a : Expr) : Expr → Option C
  | .Slice lo hi none _ => (r.e nm a).bind fun ca => (cOpt r nm lo).bind fun cl => (cOpt r nm hi).bind fun ch => some (.sl ca cl ch)
  | .Slice none none (some (.UnaryOp .USub (.Constant (.int 1) _ _) _)) _ => (r.e nm a).map .rev
  | i => if isSlice i = false then (r.e nm a).bind fun ca => (r.e nm i).bind fun ci => some (.ix ca ci) else none
theorem cSub_ok (R : RcOk cx r) (G : Good cx nm X W) {a i : Expr} {p : Pos} {c : C} (h : cSub r nm a i = some c) : SndE cx X W (.Subscript a i p) c := by
  unfold cSub at h
  split at h
  · obtain ⟨ca, ha, h⟩ := Option.bind_eq_some_iff.mp h
    obtain ⟨cl, hl, h⟩ := Option.bind_eq_some_iff.mp h
    obtain ⟨ch, hh, h⟩ := Option.bind_eq_some_iff.mp h
    cases h
    exact snd_sl (R.e G ha) (cOpt_ok R G hl) (cOpt_ok R G hh)
  · obtain ⟨ca, ha, rfl⟩ := Option.map_eq_some_iff.mp h
    exact snd_rev (R.e G ha)
  · obtain ⟨h1, h⟩ := ite_some h
    obtain ⟨ca, ha, h⟩ := Option.bind_eq_some_iff.mp h
    obtain ⟨ci, hi, h⟩ := Option.bind_eq_some_iff.mp h
    cases h
    exact snd_ix (by have := G.hu; omega) (notSlice h1) (R.e G ha) (R.e G hi)

/-! ### calls -/
def cLenset (r : Rc) (nm : Nm) (x : Str) : List Expr → Option C
  | [.Call (.Name y _) [a] [] _] => if x = "len" ∧ y = "set" ∧ glob nm x = true ∧ glob nm y = true ∧ isStar a = false then (r.e nm a).bind fun c => some (.bi .lenset (.cons c .nil)) else none
  | _ => none
theorem mem_bis {x : Str} (G : Good cx nm X W) (h : x ∈ bis) : X.mg x = none := G.bi x h
theorem cLenset_ok (R : RcOk cx r) (G : Good cx nm X W) {x : Str} {es : List Expr} {p q : Pos} {c : C} (h : cLenset r nm x es = some c) : SndE cx X W (.Call (.Name x p) es [] q) c := by
  unfold cLenset at h
  split at h
  · obtain ⟨⟨rfl, rfl, h1, h2, h3⟩, hh⟩ := ite_some h
    obtain ⟨ca, ha, hh⟩ := Option.bind_eq_some_iff.mp hh
    cases hh
    exact snd_lenset G.calm (glob_ok G h1).1 (G.bi _ (by decide)) (glob_ok G h2).1 (G.bi _ (by decide)) (notStar h3) (R.e G ha)
  · cases h
def cLrange (r : Rc) (nm : Nm) (x : Str) : List Expr → Option C
  | [.Call (.Name y _) [a] [] _] => if x = "list" ∧ y = "range" ∧ glob nm x = true ∧ glob nm y = true ∧ isStar a = false then (r.e nm a).bind fun c => some (.bi .lrange (.cons c .nil)) else none
  | _ => none
theorem cLrange_ok (R : RcOk cx r) (G : Good cx nm X W) {x : Str} {es : List Expr} {p q : Pos} {c : C} (h : cLrange r nm x es = some c) : SndE cx X W (.Call (.Name x p) es [] q) c := by
  unfold cLrange at h
  split at h
  · obtain ⟨⟨rfl, rfl, h1, h2, h3⟩, hh⟩ := ite_some h
    obtain ⟨ca, ha, hh⟩ := Option.bind_eq_some_iff.mp hh
    cases hh
    exact snd_lrange G.calm (glob_ok G h1).1 (G.bi _ (by decide)) (glob_ok G h2).1 (G.bi _ (by decide)) (notStar h3) (R.e G ha)
  · cases h
def isiOf (T : Str) : Option Bi := if T = "int" then some .isint else if T = "bool" then some .isbool else if T = "tuple" then some .istup else if T = "str" then some .isstr else if T = "list" then some .islist else none
def cIsi (r : Rc) (nm : Nm) (x : Str) : List Expr → Option C
  | [a, .Name T _] => if x = "isinstance" ∧ glob nm x = true ∧ glob nm T = true ∧ isStar a = false then (isiOf T).bind fun b => (r.e nm a).bind fun c => some (.bi b (.cons c .nil)) else none
  | _ => none
theorem cIsi_ok (R : RcOk cx r) (G : Good cx nm X W) {x : Str} {es : List Expr} {p q : Pos} {c : C} (h : cIsi r nm x es = some c) : SndE cx X W (.Call (.Name x p) es [] q) c := by
  unfold cIsi at h
  split at h
  · obtain ⟨⟨rfl, h1, h2, h3⟩, hh⟩ := ite_some h
    obtain ⟨b, hb, hh⟩ := Option.bind_eq_some_iff.mp hh
    obtain ⟨ca, ha, hh⟩ := Option.bind_eq_some_iff.mp hh
    cases hh
    obtain ⟨g1, g2, g3⟩ := glob_ok G h2
    unfold isiOf at hb
    split at hb
    · rename_i e
      subst e
      cases hb
      exact snd_isi (T := "int") (by decide) rfl (glob_ok G h1).1 (G.bi _ (by decide)) rfl g1 (G.bi _ (by decide)) rfl g3 g2 (notStar h3) (R.e G ha)
    · split at hb
      · rename_i e
        subst e
        cases hb
        exact snd_isi (T := "bool") (by decide) rfl (glob_ok G h1).1 (G.bi _ (by decide)) rfl g1 (G.bi _ (by decide)) rfl g3 g2 (notStar h3) (R.e G ha)
      · split at hb
        · rename_i e
          subst e
          cases hb
          exact snd_isi (T := "tuple") (by decide) rfl (glob_ok G h1).1 (G.bi _ (by decide)) rfl g1 (G.bi _ (by decide)) rfl g3 g2 (notStar h3) (R.e G ha)
        · split at hb
          · rename_i e
            subst e
            cases hb
            exact snd_isi (T := "str") (by decide) rfl (glob_ok G h1).1 (G.bi _ (by decide)) rfl g1 (G.bi _ (by decide)) rfl g3 g2 (notStar h3) (R.e G ha)
          · split at hb
            · rename_i e
              subst e
              cases hb
              exact snd_isi (T := "list") (by decide) rfl (glob_ok G h1).1 (G.bi _ (by decide)) rfl g1 (G.bi _ (by decide)) rfl g3 g2 (notStar h3) (R.e G ha)
            · cases hb
  · cases h
/-- built-in functions by name and number of arguments -/
def biB (x : Str) (n : Nat) : Option Bi := if x = "len" ∧ n = 1 then some .len else if x = "sum" ∧ n = 1 then some .sum else if x = "all" ∧ n = 1 then some .all else if x = "max" ∧ n = 2 then some .max2 else if x = "min" ∧ n = 2 then some .min2 else if x = "sorted" ∧ n = 1 then some .sorted else none
def biT (x : Str) (n : Nat) : Option Bi := if x = "tuple" ∧ n = 1 then some .tuple else if x = "list" ∧ n = 1 then some .list else if x = "int" ∧ n = 1 then some .int else none
theorem biB_ok (G : Good cx nm X W) {x : Str} {n : Nat} {b : Bi} (h : biB x n = some b) : ∃ id, BiOk X W (.builtin id) b ∧ X.mg x = none ∧ bootBuiltins x = some (.builtin id) := by
  have hu : X.A.units + 100 < cLine := by have := G.hu; omega
  unfold biB at h
  split at h
  · rename_i e
    obtain ⟨rfl, _⟩ := e
    cases h
    exact ⟨_, ok_len, G.bi _ (by decide), rfl⟩
  · split at h
    · rename_i e
      obtain ⟨rfl, _⟩ := e
      cases h
      exact ⟨_, ok_sum G.calm, G.bi _ (by decide), rfl⟩
    · split at h
      · rename_i e
        obtain ⟨rfl, _⟩ := e
        cases h
        exact ⟨_, ok_all G.calm, G.bi _ (by decide), rfl⟩
      · split at h
        · rename_i e
          obtain ⟨rfl, _⟩ := e
          cases h
          exact ⟨_, ok_max2 G.calm, G.bi _ (by decide), rfl⟩
        · split at h
          · rename_i e
            obtain ⟨rfl, _⟩ := e
            cases h
            exact ⟨_, ok_min2 G.calm, G.bi _ (by decide), rfl⟩
          · split at h
            · rename_i e
              obtain ⟨rfl, _⟩ := e
              cases h
              exact ⟨_, ok_sorted G.calm hu, G.bi _ (by decide), rfl⟩
            · cases h
theorem biT_ok (G : Good cx nm X W) {x : Str} {n : Nat} {b : Bi} (h : biT x n = some b) : ∃ T, BiOk X W (.type T) b ∧ X.mg x = none ∧ bootBuiltins x = some (.type T) := by
  unfold biT at h
  split at h
  · rename_i e
    obtain ⟨rfl, _⟩ := e
    cases h
    exact ⟨_, ok_tuple, G.bi _ (by decide), rfl⟩
  · split at h
    · rename_i e
      obtain ⟨rfl, _⟩ := e
      cases h
      exact ⟨_, ok_list, G.bi _ (by decide), rfl⟩
    · split at h
      · rename_i e
        obtain ⟨rfl, _⟩ := e
        cases h
        exact ⟨_, ok_int, G.bi _ (by decide), rfl⟩
      · cases h
def cPlainB (r : Rc) (nm : Nm) (x : Str) (es : List Expr) : Option C := if glob nm x = true ∧ 0 < es.length then (biB x es.length).bind fun b => (cArgs r nm es).map (.bi b) else none
def cPlainT (r : Rc) (nm : Nm) (x : Str) (es : List Expr) : Option C := if glob nm x = true ∧ 0 < es.length then (biT x es.length).bind fun b => (cArgs r nm es).map (.bi b) else none
theorem cons_of {α : Type} {l : List α} (h : 0 < l.length) : ∃ a r, l = a :: r := match l, h with
  | a :: r, _ => ⟨a, r, rfl⟩
theorem cPlainB_ok (R : RcOk cx r) (G : Good cx nm X W) {x : Str} {es : List Expr} {p q : Pos} {c : C} (h : cPlainB r nm x es = some c) : SndE cx X W (.Call (.Name x p) es [] q) c := by
  unfold cPlainB at h
  obtain ⟨⟨h1, h2⟩, h⟩ := ite_some h
  obtain ⟨b, hb, h⟩ := Option.bind_eq_some_iff.mp h
  obtain ⟨ca, ha, rfl⟩ := Option.map_eq_some_iff.mp h
  obtain ⟨id, ok, hm, hv⟩ := biB_ok G hb
  obtain ⟨g1, g2, g3⟩ := glob_ok G h1
  obtain ⟨a1, a2, _⟩ := cArgs_ok R G ha
  obtain ⟨e, es', rfl⟩ := cons_of h2
  exact snd_biB ok g1 hm hv g3 g2 a2 a1
theorem cPlainT_ok (R : RcOk cx r) (G : Good cx nm X W) {x : Str} {es : List Expr} {p q : Pos} {c : C} (h : cPlainT r nm x es = some c) : SndE cx X W (.Call (.Name x p) es [] q) c := by
  unfold cPlainT at h
  obtain ⟨⟨h1, h2⟩, h⟩ := ite_some h
  obtain ⟨b, hb, h⟩ := Option.bind_eq_some_iff.mp h
  obtain ⟨ca, ha, rfl⟩ := Option.map_eq_some_iff.mp h
  obtain ⟨T, ok, hm, hv⟩ := biT_ok G hb
  obtain ⟨g1, g2, g3⟩ := glob_ok G h1
  obtain ⟨a1, a2, _⟩ := cArgs_ok R G ha
  obtain ⟨e, es', rfl⟩ := cons_of h2
  exact snd_biT ok g1 hm hv g3 g2 a2 a1
def cOwn (r : Rc) (nm : Nm) (x : Str) (es : List Expr) : Option C := if glob nm x = true ∧ 0 < es.length then (nm.fs.lookup x).bind fun f => if f.2 = es.length then (cArgs r nm es).map (.call f.1) else none else none
theorem cOwn_ok (R : RcOk cx r) (G : Good cx nm X W) {x : Str} {es : List Expr} {p q : Pos} {c : C} (h : cOwn r nm x es = some c) : SndE cx X W (.Call (.Name x p) es [] q) c := by
  unfold cOwn at h
  obtain ⟨⟨h1, h2⟩, h⟩ := ite_some h
  obtain ⟨f, hf, h⟩ := Option.bind_eq_some_iff.mp h
  obtain ⟨hn, h⟩ := ite_some h
  obtain ⟨ca, ha, rfl⟩ := Option.map_eq_some_iff.mp h
  obtain ⟨g1, g2, g3⟩ := glob_ok G h1
  obtain ⟨a1, a2, a3⟩ := cArgs_ok R G ha
  obtain ⟨fi, f1, f2, f3⟩ := G.fs x f.1 f.2 hf
  obtain ⟨e, es', rfl⟩ := cons_of h2
  exact snd_call f1 f3 g1 G.tk g2 (starEach_cons (a2 e List.mem_cons_self)) (noStar fun e' he => a2 e' (List.mem_cons_of_mem _ he)) a1 fun ρ rs ρ1 z => (a3 ρ rs ρ1 z).trans (hn.symm.trans f2.symm)
def oneOf {α : Type} (a b : Option α) : Option α := match a with
  | some x => some x
  | none => b
theorem oneOf_some {α : Type} {a b : Option α} {x : α} (h : oneOf a b = some x) : a = some x ∨ b = some x := by
  unfold oneOf at h
  split at h
  · exact .inl h
  · exact .inr h
def cCallN (r : Rc) (nm : Nm) (x : Str) (es : List Expr) : Option C := oneOf (cOwn r nm x es) (oneOf (cPlainB r nm x es) (oneOf (cPlainT r nm x es) (oneOf (cIsi r nm x es) (oneOf (cLenset r nm x es) (cLrange r nm x es)))))
theorem cCallN_ok (R : RcOk cx r) (G : Good cx nm X W) {x : Str} {es : List Expr} {p q : Pos} {c : C} (h : cCallN r nm x es = some c) : SndE cx X W (.Call (.Name x p) es [] q) c := by
  unfold cCallN at h
  rcases oneOf_some h with h | h
  · exact cOwn_ok R G h
  rcases oneOf_some h with h | h
  · exact cPlainB_ok R G h
  rcases oneOf_some h with h | h
  · exact cPlainT_ok R G h
  rcases oneOf_some h with h | h
  · exact cIsi_ok R G h
  rcases oneOf_some h with h | h
  · exact cLenset_ok R G h
  · exact cLrange_ok R G h
def isCall : Expr → Bool
  | .Call .. => true
  | _ => false
theorem ab1 {o : Expr} {m : Str} {env : PySem.Env} {t : Sem Value} (h : isCall o = false) : attributeBase o m env t = t := by
  cases o <;> first | rfl | cases h
def cIndex (r : Rc) (nm : Nm) (m : Str) (o : Expr) : List Expr → Option C
  | [e] => if m = "index" ∧ isCall o = false ∧ isStar e = false then (r.e nm o).bind fun co => (r.e nm e).bind fun ce => some (.me .index co (.cons ce .nil)) else none
  | _ => none
def cGet (r : Rc) (nm : Nm) (m : Str) (o : Expr) : List Expr → Option C
  | [e] => if m = "get" ∧ isCall o = false ∧ isStar e = false then (r.e nm o).bind fun co => (cArgs r nm [e]).map (.me .get1 co) else none
  | [e, f] => if m = "get" ∧ isCall o = false ∧ isStar e = false ∧ isStar f = false then (r.e nm o).bind fun co => (cArgs r nm [e, f]).map (.me .get2 co) else none
  | _ => none
theorem cGet_ok (R : RcOk cx r) (G : Good cx nm X W) {m : Str} {o : Expr} {apos pos : Pos} {es : List Expr} {c : C} (hl : (apos.endLine == pos.line) = true) (h : cGet r nm m o es = some c) : SndE cx X W (.Call (.Attribute o m apos) es [] pos) c := by
  have hu : X.A.units + 65 < cLine := by have := G.hu; omega
  unfold cGet at h
  split at h
  · obtain ⟨⟨rfl, h1, h2⟩, hh⟩ := ite_some h
    obtain ⟨co, ho, hh⟩ := Option.bind_eq_some_iff.mp hh
    obtain ⟨ce, he, rfl⟩ := Option.map_eq_some_iff.mp hh
    exact snd_get hu (.inl rfl) (fun env => ab1 h1) hl (fun env => few1 (notStar h2)) (notStar h2) (fun env => rfl) (R.e G ho) (cArgs_ok R G he).1
  · obtain ⟨⟨rfl, h1, h2, h3⟩, hh⟩ := ite_some h
    obtain ⟨co, ho, hh⟩ := Option.bind_eq_some_iff.mp hh
    obtain ⟨ce, he, rfl⟩ := Option.map_eq_some_iff.mp hh
    exact snd_get hu (.inr rfl) (fun env => ab1 h1) hl (fun env => few2 (notStar h2) (notStar h3)) (notStar h2) (fun env => by rw [starEach_cons (notStar h3)]; rfl) (R.e G ho) (cArgs_ok R G he).1
  · cases h
def cPop (r : Rc) (nm : Nm) (m : Str) : Expr → List Expr → Option C
  | .Name x _, [] => if m = "pop" then (slot nm x).map .popl else none
  | .Name x _, [e] => if m = "pop" ∧ isStar e = false then (slot nm x).bind fun i => (r.e nm e).map (.popi i) else none
  | _, _ => none
def cCallM (r : Rc) (nm : Nm) (m : Str) (o : Expr) (apos : Pos) (es : List Expr) (pos : Pos) : Option C := if (apos.endLine == pos.line) = true then oneOf (cIndex r nm m o es) (oneOf (cGet r nm m o es) (cPop r nm m o es)) else none
theorem cCallM_ok (R : RcOk cx r) (G : Good cx nm X W) {m : Str} {o : Expr} {apos pos : Pos} {es : List Expr} {c : C} (h : cCallM r nm m o apos es pos = some c) : SndE cx X W (.Call (.Attribute o m apos) es [] pos) c := by
  unfold cCallM at h
  obtain ⟨hl, h⟩ := ite_some h
  rcases oneOf_some h with h | h
  · unfold cIndex at h
    split at h
    · obtain ⟨⟨rfl, h1, h2⟩, hh⟩ := ite_some h
      obtain ⟨co, ho, hh⟩ := Option.bind_eq_some_iff.mp hh
      obtain ⟨ce, he, hh⟩ := Option.bind_eq_some_iff.mp hh
      cases hh
      exact snd_index (fun env => ab1 h1) hl (notStar h2) (R.e G ho) (R.e G he)
    · cases h
  rcases oneOf_some h with h | h
  · exact cGet_ok R G hl h
  · unfold cPop at h
    split at h
    · obtain ⟨rfl, hh⟩ := ite_some h
      obtain ⟨i, hi, rfl⟩ := Option.map_eq_some_iff.mp hh
      obtain ⟨s1, s2, s3, s4⟩ := slot_ok G hi
      exact snd_popl s1 s2 s3 s4 hl
    · obtain ⟨⟨rfl, h2⟩, hh⟩ := ite_some h
      obtain ⟨i, hi, hh⟩ := Option.bind_eq_some_iff.mp hh
      obtain ⟨ce, he, rfl⟩ := Option.map_eq_some_iff.mp hh
      obtain ⟨s1, s2, s3, s4⟩ := slot_ok G hi
      exact snd_popi s1 s2 s3 s4 hl (notStar h2) (R.e G he)
    · cases h
end
end Iv
set_option maxRecDepth 100000
set_option maxHeartbeats 4000000
/-! Iv18: from the syntax to code: walks, comprehensions, statements. -/
namespace Iv
open PySem PySem.Spec PyProof.Rows L2
section
variable {cx : Ctx} {nm : Nm} {X : Cx} {W : Wish} {r : Rc}

/-! ### targets -/
def cNames (nm : Nm) : List Expr → Option (List Nat)
  | [] => some []
  | .Name x _ :: es => (slotS nm x).bind fun i => (cNames nm es).map (i :: ·)
  | _ => none
theorem cNames_ok (G : Good cx nm X W) : ∀ {es : List Expr} {is : List Nat}, cNames nm es = some is → PGs X es (gNs is) ∧ (assignEach es X.env).length = is.length ∧ (assignEach es X.env).findIdx? (·.1) = none
  | [], _, h => by
    cases h
    exact ⟨pgs_nil, rfl, rfl⟩
  | .Name x p :: es, _, h => by
    obtain ⟨i, hi, h⟩ := Option.bind_eq_some_iff.mp (show ((slotS nm x).bind fun i => (cNames nm es).map (i :: ·)) = some _ from h)
    obtain ⟨is, his, rfl⟩ := Option.map_eq_some_iff.mp h
    obtain ⟨q1, q2, q3⟩ := cNames_ok G his
    obtain ⟨s1, s2, s3⟩ := slotS_ok G hi
    refine ⟨pgs_cons (pg_name G.nd s1 s2 s3) q1 rfl, ?_, ?_⟩
    · show (_ :: assignEach es X.env).length = _
      rw [List.length_cons, q2]
      rfl
    · show List.findIdx? _ ((false, _) :: assignEach es X.env) = none
      rw [List.findIdx?_cons, q3]
      rfl
def cTg (nm : Nm) : Expr → Option Tg
  | .Name x _ => (slotS nm x).map .n
  | .Tuple es _ _ => (cNames nm es).map .t
  | _ => none
theorem cTg_ok (G : Good cx nm X W) {e : Expr} {tg : Tg} (h : cTg nm e = some tg) : PG X e (gT X.K tg) := by
  unfold cTg at h
  split at h
  · obtain ⟨i, hi, rfl⟩ := Option.map_eq_some_iff.mp h
    obtain ⟨s1, s2, s3⟩ := slotS_ok G hi
    exact pg_name G.nd s1 s2 s3
  · obtain ⟨is, his, rfl⟩ := Option.map_eq_some_iff.mp h
    obtain ⟨q1, q2, q3⟩ := cNames_ok G his
    exact pg_tup G.calm q1 q2 q3
  · cases h

/-! ### walks -/
def isN : Tg → Option Nat
  | .n i => some i
  | _ => none
theorem isN_eq {tg : Tg} {i : Nat} (h : isN tg = some i) : tg = .n i := by
  cases tg <;> cases h
  rfl
def cRange (r : Rc) (nm : Nm) (tg : Tg) : Expr → Option (Wk × C)
  | .Call (.Name x _) es [] _ => if x = "range" ∧ glob nm x = true then (isN tg).bind fun _ => (match es with
    | [_] => some Wk.r1
    | [_, _] => some Wk.r2
    | [_, _, _] => some Wk.r3
    | _ => none).bind fun w => (cArgs r nm es).map fun c => (w, c) else none
  | _ => none
def cEnum (r : Rc) (nm : Nm) : Expr → Tg → Expr → Option (Wk × C)
  | .Tuple _ _ _, .t _, .Call (.Name x _) [a] [] _ => if x = "enumerate" ∧ glob nm x = true then (cArgs r nm [a]).map fun c => (Wk.enum, c) else none
  | _, _, _ => none
def cZip (r : Rc) (nm : Nm) : Expr → Tg → Expr → Option (Wk × C)
  | .Tuple _ _ _, .t _, .Call (.Name x _) [a, b] [] _ => if x = "zip" ∧ glob nm x = true then (cArgs r nm [a, b]).map fun c => (Wk.zip, c) else none
  | _, _, _ => none
def cIter (r : Rc) (nm : Nm) (tge : Expr) (tg : Tg) (iter : Expr) : Option (Wk × C) := if isSet iter = false ∧ isStar iter = false then oneOf (cRange r nm tg iter) (oneOf (cEnum r nm tge tg iter) (oneOf (cZip r nm tge tg iter) ((r.e nm iter).map fun c => (Wk.seq, C.cons c .nil)))) else none
theorem cEnum_ok (R : RcOk cx r) (G : Good cx nm X W) {tge iter : Expr} {tg : Tg} {p : Wk × C} (h : cEnum r nm tge tg iter = some p) : SndI cx X W tge tg iter p.1 p.2 := by
  unfold cEnum at h
  split at h
  · obtain ⟨⟨rfl, h1⟩, h2⟩ := ite_some h
    obtain ⟨c, hc, rfl⟩ := Option.map_eq_some_iff.mp h2
    obtain ⟨g1, g2, g3⟩ := glob_ok G h1
    obtain ⟨a1, a2, _⟩ := cArgs_ok R G hc
    exact snd_ienum g1 (G.bi _ (by decide)) (starEach_cons (a2 _ (by simp))) a1
  · cases h
theorem cZip_ok (R : RcOk cx r) (G : Good cx nm X W) {tge iter : Expr} {tg : Tg} {p : Wk × C} (h : cZip r nm tge tg iter = some p) : SndI cx X W tge tg iter p.1 p.2 := by
  unfold cZip at h
  split at h
  · obtain ⟨⟨rfl, h1⟩, h2⟩ := ite_some h
    obtain ⟨c, hc, rfl⟩ := Option.map_eq_some_iff.mp h2
    obtain ⟨g1, g2, g3⟩ := glob_ok G h1
    obtain ⟨a1, a2, _⟩ := cArgs_ok R G hc
    refine snd_izip g1 (G.bi _ (by decide)) (starEach_cons (a2 _ (by simp))) ?_ a1
    rw [starEach_cons (a2 _ (by simp))]
    rfl
  · cases h
theorem cRange_ok (R : RcOk cx r) (G : Good cx nm X W) {tge iter : Expr} {tg : Tg} {p : Wk × C} (h : cRange r nm tg iter = some p) : SndI cx X W tge tg iter p.1 p.2 := by
  unfold cRange at h
  split at h
  · obtain ⟨⟨rfl, h1⟩, h2⟩ := ite_some h
    obtain ⟨i, hi, h3⟩ := Option.bind_eq_some_iff.mp h2
    obtain ⟨w, hw, h4⟩ := Option.bind_eq_some_iff.mp h3
    obtain ⟨c, hc, rfl⟩ := Option.map_eq_some_iff.mp h4
    rw [isN_eq hi]
    obtain ⟨g1, g2, g3⟩ := glob_ok G h1
    have hm : X.mg "range" = none := G.bi _ (by decide)
    obtain ⟨a1, a2, _⟩ := cArgs_ok R G hc
    split at hw
    · cases hw
      exact snd_irange1 g1 hm (starEach_cons (a2 _ (by simp))) a1
    · cases hw
      refine snd_irange2 g1 hm ?_ (starEach_cons (a2 _ (by simp))) a1
      rw [starEach_cons (a2 _ (by simp)), starEach_cons (a2 _ (by simp))]
      rfl
    · cases hw
      exact snd_irange3 g1 hm (starEach_cons (a2 _ (by simp))) (noStar fun e' he => a2 e' (List.mem_cons_of_mem _ he)) a1
    · cases hw
  · cases h
theorem cIter_ok (R : RcOk cx r) (G : Good cx nm X W) {tge iter : Expr} {tg : Tg} {p : Wk × C} (h : cIter r nm tge tg iter = some p) : SndI cx X W tge tg iter p.1 p.2 ∧ ∀ x, foldedSetIterable iter X.env x = pure x := by
  unfold cIter at h
  obtain ⟨⟨h1, h2⟩, h3⟩ := ite_some h
  refine ⟨?_, fs1 h1⟩
  rcases oneOf_some h3 with h | h
  · exact cRange_ok R G h
  rcases oneOf_some h with h | h
  · exact cEnum_ok R G h
  rcases oneOf_some h with h | h
  · exact cZip_ok R G h
  · obtain ⟨c, hc, rfl⟩ := Option.map_eq_some_iff.mp h
    exact snd_iseq (R.e G hc)

/-! ### comprehensions -/
def ownOf (N : List Str) (sc : Scope) : List (Str × Nat) := sc.names.filterMap fun p => if p.2 = .local ∨ p.2 = .cell then (N.findIdx? (· == p.1)).map fun i => (p.1, i) else none
def Nm.blk (nm : Nm) (scope : Scope) : Nm := { nm with sc := relS scope nm.sc, cs := cellsOf scope }
theorem Good.blk (G : Good cx nm X W) {scope : Scope} (hk : scope.kind = .function) (s : Shared) (H : Hp) (Ca : Addr) (cl : List (Str × Addr)) (fp : List Addr) : Good cx (nm.blk scope) (X.blk s H scope (compEnvC scope cl Ca X.env) fp) WNo where
  N := G.N
  nd := G.nd
  sc := by
    show relS scope X.env.scope = relS scope nm.sc
    rw [G.sc]
  kind := hk
  calm := G.calm
  fn := fun x h => cellsOf_ok h
  hu := G.hu
  fs := fun x i n h => let ⟨fi, h1, h2, k, f, fd, ps, q⟩ := G.fs x i n h; ⟨fi, h1, h2, k, f, fd, ps, q⟩
  ks := G.ks
  bi := G.bi
  tk := fun u s' x => by
    obtain ⟨_, _, _, _, _, _, _, _, _, _, _, _, _, _, _, _, _, _, _, _, _, z⟩ := x
    exact z.elim
def cIfs (r : Rc) (nm : Nm) : List Expr → Option C
  | [] => some (.k (.bool true))
  | [e] => r.t nm e
  | _ => none
theorem cIfs_ok (R : RcOk cx r) (G : Good cx nm X W) {es : List Expr} {c : C} (h : cIfs r nm es = some c) : SndTs cx X W es c := by
  unfold cIfs at h
  split at h
  · cases h
    exact sndTs_nil
  · exact sndTs_one (R.t G h)
  · cases h
structure LcC where
  own : List (Str × Nat)
  elt : C
  tg : Tg
  w : Wk
  it : C
  ifs : C
def LcC.c (l : LcC) : C := .lc (l.own.map (·.2)) l.elt l.tg l.w l.it l.ifs
def cLc (r : Rc) (nm : Nm) (elt tge iter : Expr) (ifs : List Expr) (scope : Scope) : Option LcC :=
  if blkC nm.N nm.sc scope (ownOf nm.N scope) = true then
    (cTg (nm.blk scope) tge).bind fun tg => if (tgs tg).all (fun i => decide (i ∈ (ownOf nm.N scope).map (·.2))) = true then
      (cIter r nm tge tg iter).bind fun it => (r.e (nm.blk scope) elt).bind fun ce => (cIfs r (nm.blk scope) ifs).bind fun ci => some ⟨ownOf nm.N scope, ce, tg, it.1, it.2, ci⟩ else none
  else none
theorem cLc_ok (R : RcOk cx r) (G : Good cx nm X W) {elt tge iter : Expr} {ifs : List Expr} {scope : Scope} {l : LcC} (h : cLc r nm elt tge iter ifs scope = some l) : LcOk cx X W tge iter elt ifs l.tg l.w l.it l.elt l.ifs scope l.own := by
  unfold cLc at h
  obtain ⟨h1, h2⟩ := ite_some h
  obtain ⟨tg, htg, h3⟩ := Option.bind_eq_some_iff.mp h2
  obtain ⟨h4, h5⟩ := ite_some h3
  obtain ⟨it, hit, h6⟩ := Option.bind_eq_some_iff.mp h5
  obtain ⟨ce, hce, h7⟩ := Option.bind_eq_some_iff.mp h6
  obtain ⟨ci, hci, h8⟩ := Option.bind_eq_some_iff.mp h7
  cases h8
  have ok : BlkOk X.N X.env.scope scope (ownOf nm.N scope) := by
    rw [G.N, G.sc]
    exact blkOk_by h1
  obtain ⟨i1, i2⟩ := cIter_ok R G (tge := tge) hit
  exact {
    calm := G.calm
    nd := G.nd
    ok := ok
    hi := i1
    htg := fun i hi => by
      have := List.all_eq_true.mp h4 i hi
      simpa using this
    hs := i2
    hg := fun s H Ca cl fp => cTg_ok (G.blk ok.kind s H Ca cl fp) htg
    ht := fun s H Ca cl fp => cIfs_ok R (G.blk ok.kind s H Ca cl fp) hci
    he := fun s H Ca cl fp => R.e (G.blk ok.kind s H Ca cl fp) hce }

structure DcC where
  own : List (Str × Nat)
  key : C
  val : C
  tg : Tg
  w : Wk
  it : C
def DcC.c (l : DcC) : C := .dc (l.own.map (·.2)) l.key l.val l.tg l.w l.it
def cDc (r : Rc) (nm : Nm) (key val tge iter : Expr) (scope : Scope) : Option DcC :=
  if blkC nm.N nm.sc scope (ownOf nm.N scope) = true then
    (cTg (nm.blk scope) tge).bind fun tg => if (tgs tg).all (fun i => decide (i ∈ (ownOf nm.N scope).map (·.2))) = true then
      (cIter r nm tge tg iter).bind fun it => (r.e (nm.blk scope) key).bind fun ck => (r.e (nm.blk scope) val).bind fun cv => some ⟨ownOf nm.N scope, ck, cv, tg, it.1, it.2⟩ else none
  else none
theorem cDc_ok (R : RcOk cx r) (G : Good cx nm X W) {key val tge iter : Expr} {scope : Scope} {l : DcC} (h : cDc r nm key val tge iter scope = some l) : DcOk cx X W tge iter key val l.tg l.w l.it l.key l.val scope l.own := by
  unfold cDc at h
  obtain ⟨h1, h2⟩ := ite_some h
  obtain ⟨tg, htg, h3⟩ := Option.bind_eq_some_iff.mp h2
  obtain ⟨h4, h5⟩ := ite_some h3
  obtain ⟨it, hit, h6⟩ := Option.bind_eq_some_iff.mp h5
  obtain ⟨ck, hck, h7⟩ := Option.bind_eq_some_iff.mp h6
  obtain ⟨cv, hcv, h8⟩ := Option.bind_eq_some_iff.mp h7
  cases h8
  have ok : BlkOk X.N X.env.scope scope (ownOf nm.N scope) := by
    rw [G.N, G.sc]
    exact blkOk_by h1
  obtain ⟨i1, i2⟩ := cIter_ok R G (tge := tge) hit
  exact {
    calm := G.calm
    nd := G.nd
    ok := ok
    hi := i1
    htg := fun i hi => by
      have := List.all_eq_true.mp h4 i hi
      simpa using this
    hs := i2
    hg := fun s H Ca cl fp => cTg_ok (G.blk ok.kind s H Ca cl fp) htg
    hk := fun s H Ca cl fp => R.e (G.blk ok.kind s H Ca cl fp) hck
    he := fun s H Ca cl fp => R.e (G.blk ok.kind s H Ca cl fp) hcv }

/-! ### one step, all steps -/
def stepE (r : Rc) (nm : Nm) : Expr → Option C
  | .Name x _ => cName nm x
  | .Constant v _ _ => cConst v
  | .BinOp a o b _ => (r.e nm a).bind fun ca => (r.e nm b).bind fun cb => some (.op o ca cb)
  | .UnaryOp .Not a _ => (r.e nm a).map .notv
  | .UnaryOp .USub a _ => (r.e nm a).map .neg
  | .BoolOp o es _ => cBools r nm o es
  | .Compare a os bs _ => cCmp r nm a os bs
  | .IfExp t a b _ => (r.t nm t).bind fun ct => (r.e nm a).bind fun ca => (r.e nm b).bind fun cb => some (.ife ct ca cb)
  | .Tuple es _ _ => (cArgs r nm es).map .tup
  | .List es _ => (cArgs r nm es).map .lst
  | .Subscript a i _ => cSub r nm a i
  | .Call (.Name x _) es [] _ => cCallN r nm x es
  | .Call (.Attribute o m apos) es [] pos => cCallM r nm m o apos es pos
  | .ListComp elt [⟨tge, iter, ifs, 0⟩] scope _ => (cLc r nm elt tge iter ifs scope).map LcC.c
  | .Dict [] [] _ => some (.dic .nil .nil)
  | .DictComp key val [⟨tge, iter, [], 0⟩] scope _ => (cDc r nm key val tge iter scope).map DcC.c
  | _ => none
def stepT (r : Rc) (nm : Nm) : Expr → Option C
  | .UnaryOp .Not a _ => (r.t nm a).map .nott
  | .BoolOp o es _ => cBoolT r nm o es
  | .Compare a os bs _ => (cCmp r nm a os bs).map .tr
  | e => if plainT e = true then (r.e nm e).map .tr else none
theorem stepE_ok (R : RcOk cx r) (G : Good cx nm X W) {e : Expr} {c : C} (h : stepE r nm e = some c) : SndE cx X W e c := by
  unfold stepE at h
  split at h
  · exact cName_ok G h
  · exact cConst_ok h
  · obtain ⟨ca, ha, h1⟩ := Option.bind_eq_some_iff.mp h
    obtain ⟨cb, hb, h2⟩ := Option.bind_eq_some_iff.mp h1
    cases h2
    exact snd_op (R.e G ha) (R.e G hb)
  · obtain ⟨ca, ha, rfl⟩ := Option.map_eq_some_iff.mp h
    exact snd_not (R.e G ha)
  · obtain ⟨ca, ha, rfl⟩ := Option.map_eq_some_iff.mp h
    exact snd_neg (R.e G ha)
  · exact cBools_ok R G h
  · exact (cCmp_ok R G h).1
  · obtain ⟨ct, ht, h1⟩ := Option.bind_eq_some_iff.mp h
    obtain ⟨ca, ha, h2⟩ := Option.bind_eq_some_iff.mp h1
    obtain ⟨cb, hb, h3⟩ := Option.bind_eq_some_iff.mp h2
    cases h3
    exact snd_ife (R.t G ht) (R.e G ha) (R.e G hb)
  · obtain ⟨ca, ha, rfl⟩ := Option.map_eq_some_iff.mp h
    exact snd_tup (cArgs_ok R G ha).1
  · obtain ⟨ca, ha, rfl⟩ := Option.map_eq_some_iff.mp h
    exact snd_lst (cArgs_ok R G ha).1
  · exact cSub_ok R G h
  · exact cCallN_ok R G h
  · exact cCallM_ok R G h
  · obtain ⟨l, hl, rfl⟩ := Option.map_eq_some_iff.mp h
    exact snd_lc (cLc_ok R G hl)
  · cases h
    exact snd_dnew
  · obtain ⟨l, hl, rfl⟩ := Option.map_eq_some_iff.mp h
    exact snd_dc (cDc_ok R G hl)
  · cases h
theorem stepT_ok (R : RcOk cx r) (G : Good cx nm X W) {e : Expr} {c : C} (h : stepT r nm e = some c) : SndT cx X W e c := by
  unfold stepT at h
  split at h
  · obtain ⟨ca, ha, rfl⟩ := Option.map_eq_some_iff.mp h
    exact sndT_not (R.t G ha)
  · exact sndW_t (cBoolT_ok R G h)
  · obtain ⟨ca, ha, rfl⟩ := Option.map_eq_some_iff.mp h
    exact (cCmp_ok R G ha).2
  · obtain ⟨h1, h2⟩ := ite_some h
    obtain ⟨ca, ha, rfl⟩ := Option.map_eq_some_iff.mp h2
    exact sndT_tr (plainT_ok h1) (R.e G ha)
end
def rc : Nat → Rc
  | 0 => ⟨fun _ _ => none, fun _ _ => none⟩
  | n + 1 => ⟨stepE (rc n), stepT (rc n)⟩
theorem rc_ok {cx : Ctx} : ∀ n, RcOk cx (rc n)
  | 0 => ⟨fun _ h => (nomatch h), fun _ h => (nomatch h)⟩
  | n + 1 => ⟨fun G h => stepE_ok (rc_ok n) G h, fun G h => stepT_ok (rc_ok n) G h⟩
end Iv
set_option maxRecDepth 100000
set_option maxHeartbeats 4000000
/-! Iv19: from the syntax to code: statements. -/
namespace Iv
open PySem PySem.Spec PyProof.Rows L2

def ExcAt (X : Cx) (x : Str) : Prop := ∃ (C0 : Addr) (bmB : List Value) (Bn newId initId : String), ExcBaseFacts Bn newId initId bmB ∧ PySem.W.excIn X.K C0 bmB newId = true ∧ X.mg x = some (.ref C0) ∧ PySem.W.keepIn X.K (.ref C0) = true ∧ Raises X (.ref C0)
structure GoodS (cx : Ctx) (nm : Nm) (X : Cx) (W : Wish) : Prop where
  g : Good cx nm X W
  po : PassesOwn (model X.prog X.w) X.A X.env X.xe
  ex : ∀ x ∈ nm.es, ExcAt X x
section
variable {cx : Ctx} {nm : Nm} {X : Cx} {W : Wish} {r : Rc} {bl : List Stmt → Option S}
/-- may the slot be stored -/
def ioOk (nm : Nm) (i : Nat) : Bool := !(nm.io && (i == 0))
theorem ioOk_ok {i : Nat} (h : ioOk nm i = true) : nm.io = true → i ≠ 0 := by
  intro h1 h2
  subst h2
  unfold ioOk at h
  rw [h1] at h
  cases h
def ioOks (nm : Nm) (is : List Nat) : Bool := is.all (ioOk nm)
theorem ioOks_ok {is : List Nat} (h : ioOks nm is = true) : nm.io = true → 0 ∉ is := fun h1 h2 => ioOk_ok (List.all_eq_true.mp h 0 h2) h1 rfl
def cApp (r : Rc) (nm : Nm) : Expr → Option S
  | .Call (.Attribute (.Name x _) m apos) [e] [] cpos => if m = "append" ∧ (apos.endLine == cpos.line) = true ∧ isStar e = false then (slot nm x).bind fun i => (r.e nm e).map (.app i) else none
  | _ => none
theorem cApp_ok (R : RcOk cx r) (G : Good cx nm X W) {e : Expr} {pos : Pos} {c : S} (h : cApp r nm e = some c) : SndS cx X W nm.io (.Expr e pos) c := by
  unfold cApp at h
  split at h
  · obtain ⟨⟨rfl, h1, h2⟩, h3⟩ := ite_some h
    obtain ⟨i, hi, h4⟩ := Option.bind_eq_some_iff.mp h3
    obtain ⟨ce, hc, rfl⟩ := Option.map_eq_some_iff.mp h4
    obtain ⟨s1, s2, s3, s4⟩ := slot_ok G hi
    exact snd_app s1 s2 s3 s4 h1 (notStar h2) (R.e G hc)
  · cases h
/-- name = [..] -/
def cAsgLc (r : Rc) (nm : Nm) (x : Str) (px : Pos) : Expr → Option S
  | .ListComp elt [⟨tge, iter, ifs, 0⟩] scope cpos => if nm.sc.names.lookup x = some .local ∧ (px.line == cpos.line) = true ∧ (scope.names.any fun p => p.1 == x && (p.2 == .local || p.2 == .cell)) = false then
      (slotS nm x).bind fun i => if ioOk nm i = true then (cLc r nm elt tge iter ifs scope).map fun l => .asg i l.c else none else none
  | _ => none
theorem cAsgLc_ok (R : RcOk cx r) (G : Good cx nm X W) {x : Str} {px pos : Pos} {e : Expr} {c : S} (h : cAsgLc r nm x px e = some c) : SndS cx X W nm.io (.Assign [.Name x px] e pos) c := by
  unfold cAsgLc at h
  split at h
  · obtain ⟨⟨h1, h2, h3⟩, h4⟩ := ite_some h
    obtain ⟨i, hi, h5⟩ := Option.bind_eq_some_iff.mp h4
    obtain ⟨h6, h7⟩ := ite_some h5
    obtain ⟨l, hl, rfl⟩ := Option.map_eq_some_iff.mp h7
    rw [← G.sc] at h1
    exact snd_asgLc (slotS_ok G hi).1 h1 (sw_true G.kind h1 h2 h3) (ioOk_ok h6) (cLc_ok R G hl)
  · cases h
/-- name = {..} -/
def cAsgDc (r : Rc) (nm : Nm) (x : Str) (px : Pos) : Expr → Option S
  | .DictComp key val [⟨tge, iter, [], 0⟩] scope cpos => if nm.sc.names.lookup x = some .local ∧ (px.line == cpos.line) = true ∧ (scope.names.any fun p => p.1 == x && (p.2 == .local || p.2 == .cell)) = false then
      (slotS nm x).bind fun i => if ioOk nm i = true then (cDc r nm key val tge iter scope).map fun l => .asg i l.c else none else none
  | _ => none
theorem cAsgDc_ok (R : RcOk cx r) (G : Good cx nm X W) {x : Str} {px pos : Pos} {e : Expr} {c : S} (h : cAsgDc r nm x px e = some c) : SndS cx X W nm.io (.Assign [.Name x px] e pos) c := by
  unfold cAsgDc at h
  split at h
  · obtain ⟨⟨h1, h2, h3⟩, h4⟩ := ite_some h
    obtain ⟨i, hi, h5⟩ := Option.bind_eq_some_iff.mp h4
    obtain ⟨h6, h7⟩ := ite_some h5
    obtain ⟨l, hl, rfl⟩ := Option.map_eq_some_iff.mp h7
    rw [← G.sc] at h1
    exact snd_asgDc (slotS_ok G hi).1 h1 (sw_trueD G.kind h1 h2 h3) (ioOk_ok h6) (cDc_ok R G hl)
  · cases h
def cAsgN (r : Rc) (nm : Nm) (x : Str) (e : Expr) : Option S := if isComp e = false then (slotS nm x).bind fun i => if ioOk nm i = true then (r.e nm e).map (.asg i) else none else none
theorem cAsgN_ok (R : RcOk cx r) (G : Good cx nm X W) {x : Str} {px pos : Pos} {e : Expr} {c : S} (h : cAsgN r nm x e = some c) : SndS cx X W nm.io (.Assign [.Name x px] e pos) c := by
  unfold cAsgN at h
  obtain ⟨h1, h2⟩ := ite_some h
  obtain ⟨i, hi, h3⟩ := Option.bind_eq_some_iff.mp h2
  obtain ⟨h4, h5⟩ := ite_some h3
  obtain ⟨ce, hc, rfl⟩ := Option.map_eq_some_iff.mp h5
  obtain ⟨s1, s2, s3⟩ := slotS_ok G hi
  exact snd_asg G.nd s1 s2 (sw1 h1) s3 (ioOk_ok h4) (R.e G hc)
def isLocal (nm : Nm) (x : Str) : Bool := decide (nm.sc.names.lookup x = some .local)
theorem isLocal_ok (G : Good cx nm X W) {x : Str} (h : isLocal nm x = true) : X.env.scope.names.lookup x = some .local := by
  rw [G.sc]
  exact of_decide_eq_true h
def cPar (r : Rc) (nm : Nm) : List Expr → List Expr → Option S
  | [.Name x px, .Name y py], [a, b] => if isLocal nm x = true ∧ isLocal nm y = true ∧ (py.line == px.line) = true ∧ ([x, y] : List Str).eraseDups.length = 2 ∧ ([a, b].any isStar) = false ∧ ([a, b].all (foldedForSure 8)) = false ∧ ([a, b].all (constantsAlone 8)) = false then
      (slot nm x).bind fun i => (slot nm y).bind fun j => if i ≠ j ∧ ioOks nm [i, j] = true then (cArgs r nm [a, b]).map (.par [i, j]) else none else none
  | [.Name x px, .Name y py, .Name z pz], [a, b, c] => if isLocal nm x = true ∧ isLocal nm y = true ∧ isLocal nm z = true ∧ (py.line == px.line) = true ∧ (pz.line == px.line) = true ∧ ([x, y, z] : List Str).eraseDups.length = 3 ∧ ([a, b, c].any isStar) = false ∧ ([a, b, c].all (foldedForSure 8)) = false ∧ ([a, b, c].all (constantsAlone 8)) = false then
      (slot nm x).bind fun i => (slot nm y).bind fun j => (slot nm z).bind fun l => if i ≠ j ∧ i ≠ l ∧ j ≠ l ∧ ioOks nm [i, j, l] = true then (cArgs r nm [a, b, c]).map (.par [i, j, l]) else none else none
  | _, _ => none
theorem cPar_ok (R : RcOk cx r) (G : Good cx nm X W) {ts vs : List Expr} {k k2 : Nat} {pt pv pos : Pos} {c : S} (h : cPar r nm ts vs = some c) : SndS cx X W nm.io (.Assign [.Tuple ts k pt] (.Tuple vs k2 pv) pos) c := by
  unfold cPar at h
  split at h
  · obtain ⟨⟨h1, h2, h3, h4, h5, h6, h7⟩, h8⟩ := ite_some h
    obtain ⟨i, hi, h9⟩ := Option.bind_eq_some_iff.mp h8
    obtain ⟨j, hj, h10⟩ := Option.bind_eq_some_iff.mp h9
    obtain ⟨⟨h11, h12⟩, h13⟩ := ite_some h10
    obtain ⟨ca, ha, rfl⟩ := Option.map_eq_some_iff.mp h13
    have l1 := isLocal_ok G h1
    have l2 := isLocal_ok G h2
    exact snd_par2 G.calm G.nd (slot_ok G hi).1 (slot_ok G hj).1 h11 l1 l2 (ss_par2 G.kind l1 l2 h3 h4 h5 h6 h7) (ioOks_ok h12) (cArgs_ok R G ha).1
  · obtain ⟨⟨h1, h2, h0, h3, h3b, h4, h5, h6, h7⟩, h8⟩ := ite_some h
    obtain ⟨i, hi, h9⟩ := Option.bind_eq_some_iff.mp h8
    obtain ⟨j, hj, h10⟩ := Option.bind_eq_some_iff.mp h9
    obtain ⟨l, hl, h10b⟩ := Option.bind_eq_some_iff.mp h10
    obtain ⟨⟨h11, h11b, h11c, h12⟩, h13⟩ := ite_some h10b
    obtain ⟨ca, ha, rfl⟩ := Option.map_eq_some_iff.mp h13
    have l1 := isLocal_ok G h1
    have l2 := isLocal_ok G h2
    have l3 := isLocal_ok G h0
    exact snd_par3 G.calm G.nd (slot_ok G hi).1 (slot_ok G hj).1 (slot_ok G hl).1 h11 h11b h11c l1 l2 l3 (ss_par3 G.kind l1 l2 l3 h3 h3b h4 h5 h6 h7) (ioOks_ok h12) (cArgs_ok R G ha).1
  · cases h
def cSet2 (r : Rc) (nm : Nm) : List Expr → List Expr → Option S
  | [.Subscript (.Name x _) i _, .Subscript (.Name y _) j _], es => if x = y ∧ isSlice i = false ∧ isSlice j = false then (slot nm x).bind fun a => (r.e nm i).bind fun ci => (r.e nm j).bind fun cj => (cArgs r nm es).map (.set2 a ci cj) else none
  | _, _ => none
theorem cSet2_ok (R : RcOk cx r) (G : Good cx nm X W) {ts vs : List Expr} {k k2 : Nat} {pt pv pos : Pos} {c : S} (h : cSet2 r nm ts vs = some c) : SndS cx X W nm.io (.Assign [.Tuple ts k pt] (.Tuple vs k2 pv) pos) c := by
  unfold cSet2 at h
  split at h
  · obtain ⟨⟨rfl, h1, h2⟩, h3⟩ := ite_some h
    obtain ⟨a, ha, h4⟩ := Option.bind_eq_some_iff.mp h3
    obtain ⟨ci, hi, h5⟩ := Option.bind_eq_some_iff.mp h4
    obtain ⟨cj, hj, h6⟩ := Option.bind_eq_some_iff.mp h5
    obtain ⟨ces, he, rfl⟩ := Option.map_eq_some_iff.mp h6
    obtain ⟨s1, s2, s3, s4⟩ := slot_ok G ha
    exact snd_set2 (by have := G.hu; omega) G.calm s1 s2 s3 s4 (asg_sub (notSlice h1)) (asg_sub (notSlice h2)) ss_sub (R.e G hi) (R.e G hj) (cArgs_ok R G he).1
  · cases h
theorem sws1 {t e : Expr} {n : Nat} {env : PySem.Env} (h : isComp e = false) : swapsWithSole [t] e n env = pure false := by
  unfold swapsWithSole
  exact sw1 h
def cAsgT (r : Rc) (nm : Nm) (ts : List Expr) (e : Expr) : Option S := if isTup e = false ∧ isComp e = false then (cNames nm ts).bind fun is => if ioOks nm is = true then (r.e nm e).map (.asgT is) else none else none
theorem cAsgT_ok (R : RcOk cx r) (G : Good cx nm X W) {ts : List Expr} {e : Expr} {k : Nat} {pt pos : Pos} {c : S} (h : cAsgT r nm ts e = some c) : SndS cx X W nm.io (.Assign [.Tuple ts k pt] e pos) c := by
  unfold cAsgT at h
  obtain ⟨⟨h1, h2⟩, h3⟩ := ite_some h
  obtain ⟨is, his, h4⟩ := Option.bind_eq_some_iff.mp h3
  obtain ⟨h5, h6⟩ := ite_some h4
  obtain ⟨ce, hc, rfl⟩ := Option.map_eq_some_iff.mp h6
  obtain ⟨q1, q2, q3⟩ := cNames_ok G his
  exact snd_asgT (pg_tup G.calm q1 q2 q3) (sws1 h2) (ss0 h1) rfl (ioOks_ok h5) (R.e G hc)
/-- names of which some are no locals: no swap, a tuple is made and taken apart -/
def ssNames (env : PySem.Env) (line : Nat) (ts : List Expr) : List Str := ts.filterMap fun
    | .Name id pos => if env.kindOf id == some .local && pos.line == line then some id else none
    | _ => none
theorem ss_few {ts vs : List Expr} {k k2 : Nat} {pt pv : Pos} {env : PySem.Env} (h : ((ssNames env ((ts.head?.map (·.pos.line)).getD 0) ts).length != ts.length) = true) : swappedStores [.Tuple ts k pt] (.Tuple vs k2 pv) env = pure none := by
  unfold swappedStores
  simp only []
  split
  · rfl
  · split
    · rfl
    · refine (if_pos ?_)
      rw [Bool.or_eq_true]
      exact .inl h
def ssFew (nm : Nm) (line : Nat) (ts : List Expr) : Bool := ((ts.filterMap fun
    | .Name id pos => if nm.sc.names.lookup id == some .local && pos.line == line then some id else none
    | _ => none : List Str).length != ts.length)
theorem ssFew_ok (G : Good cx nm X W) {ts vs : List Expr} {k k2 : Nat} {pt pv : Pos} (h : ssFew nm ((ts.head?.map (·.pos.line)).getD 0) ts = true) : swappedStores [.Tuple ts k pt] (.Tuple vs k2 pv) X.env = pure none := by
  refine ss_few ?_
  unfold ssFew at h
  rw [← G.sc] at h
  exact h
def cParT (r : Rc) (nm : Nm) (ts vs : List Expr) : Option S := if ssFew nm ((ts.head?.map (·.pos.line)).getD 0) ts = true then (cNames nm ts).bind fun is => if ioOks nm is = true then (cArgs r nm vs).map fun c => .asgT is (.tup c) else none else none
theorem cParT_ok (R : RcOk cx r) (G : Good cx nm X W) {ts vs : List Expr} {k k2 : Nat} {pt pv pos : Pos} {c : S} (h : cParT r nm ts vs = some c) : SndS cx X W nm.io (.Assign [.Tuple ts k pt] (.Tuple vs k2 pv) pos) c := by
  unfold cParT at h
  obtain ⟨h1, h3⟩ := ite_some h
  obtain ⟨is, his, h4⟩ := Option.bind_eq_some_iff.mp h3
  obtain ⟨h5, h6⟩ := ite_some h4
  obtain ⟨ce, hc, rfl⟩ := Option.map_eq_some_iff.mp h6
  obtain ⟨q1, q2, q3⟩ := cNames_ok G his
  exact snd_asgT (pg_tup G.calm q1 q2 q3) (sws1 rfl) (ssFew_ok G h1) rfl (ioOks_ok h5) (snd_tup (cArgs_ok R G hc).1)
def cSet (r : Rc) (nm : Nm) (x : Str) (i e : Expr) : Option S := if isSlice i = false ∧ isComp e = false then (slot nm x).bind fun a => (r.e nm i).bind fun ci => (r.e nm e).map (.set a ci) else none
theorem cSet_ok (R : RcOk cx r) (G : Good cx nm X W) {x : Str} {i e : Expr} {p sp pos : Pos} {c : S} (h : cSet r nm x i e = some c) : SndS cx X W nm.io (.Assign [.Subscript (.Name x p) i sp] e pos) c := by
  unfold cSet at h
  obtain ⟨⟨h1, h2⟩, h3⟩ := ite_some h
  obtain ⟨a, ha, h4⟩ := Option.bind_eq_some_iff.mp h3
  obtain ⟨ci, hi, h5⟩ := Option.bind_eq_some_iff.mp h4
  obtain ⟨ce, hc, rfl⟩ := Option.map_eq_some_iff.mp h5
  obtain ⟨s1, s2, s3, s4⟩ := slot_ok G ha
  exact snd_set (by have := G.hu; omega) s1 s2 s3 s4 (asg_sub (notSlice h1)) (sws1 h2) (R.e G hi) (R.e G hc)
/-- no local: nothing is swapped -/
theorem sw_cell {e : Expr} {x : Str} {p : Pos} {n : Nat} {env : PySem.Env} (h : (env.kindOf x == some .local) = false) : swapsWith e (some (.Name x p)) n env = pure false := by
  unfold swapsWith
  split
  · simp only [h, Bool.and_false, Bool.false_and]
  · rfl
def cAsgC (r : Rc) (nm : Nm) (x : Str) (e : Expr) : Option S := if (nm.sc.names.lookup x == some .local) = false then (slotS nm x).bind fun i => if ioOk nm i = true then (r.e nm e).map (.asg i) else none else none
theorem cAsgC_ok (R : RcOk cx r) (G : Good cx nm X W) {x : Str} {px pos : Pos} {e : Expr} {c : S} (h : cAsgC r nm x e = some c) : SndS cx X W nm.io (.Assign [.Name x px] e pos) c := by
  unfold cAsgC at h
  obtain ⟨h1, h2⟩ := ite_some h
  obtain ⟨i, hi, h3⟩ := Option.bind_eq_some_iff.mp h2
  obtain ⟨h4, h5⟩ := ite_some h3
  obtain ⟨ce, hc, rfl⟩ := Option.map_eq_some_iff.mp h5
  obtain ⟨s1, s2, s3⟩ := slotS_ok G hi
  rw [← G.sc] at h1
  exact snd_asg G.nd s1 s2 (sw_cell h1) s3 (ioOk_ok h4) (R.e G hc)
def cAsg (r : Rc) (nm : Nm) : Expr → Expr → Option S
  | .Name x px, e => oneOf (cAsgLc r nm x px e) (oneOf (cAsgDc r nm x px e) (oneOf (cAsgN r nm x e) (cAsgC r nm x e)))
  | .Tuple ts _ _, .Tuple vs _ _ => oneOf (cPar r nm ts vs) (oneOf (cSet2 r nm ts vs) (cParT r nm ts vs))
  | .Tuple ts _ _, e => cAsgT r nm ts e
  | .Subscript (.Name x _) i _, e => cSet r nm x i e
  | _, _ => none
theorem cAsg_ok (R : RcOk cx r) (G : Good cx nm X W) {t e : Expr} {pos : Pos} {c : S} (h : cAsg r nm t e = some c) : SndS cx X W nm.io (.Assign [t] e pos) c := by
  unfold cAsg at h
  split at h
  · rcases oneOf_some h with h | h
    · exact cAsgLc_ok R G h
    rcases oneOf_some h with h | h
    · exact cAsgDc_ok R G h
    rcases oneOf_some h with h | h
    · exact cAsgN_ok R G h
    · exact cAsgC_ok R G h
  · rcases oneOf_some h with h | h
    · exact cPar_ok R G h
    rcases oneOf_some h with h | h
    · exact cSet2_ok R G h
    · exact cParT_ok R G h
  · exact cAsgT_ok R G h
  · exact cSet_ok R G h
  · cases h
def cAug (r : Rc) (nm : Nm) (x : Str) (o : Operator) (e : Expr) : Option S := if o = .Add then (slotS nm x).bind fun i => if ioOk nm i = true then (r.e nm e).map (.aug i o) else none else none
theorem cAug_ok (R : RcOk cx r) (G : Good cx nm X W) {x : Str} {o : Operator} {e : Expr} {p pos : Pos} {c : S} (h : cAug r nm x o e = some c) : SndS cx X W nm.io (.AugAssign (.Name x p) o e pos) c := by
  unfold cAug at h
  obtain ⟨rfl, h1⟩ := ite_some h
  obtain ⟨i, hi, h2⟩ := Option.bind_eq_some_iff.mp h1
  obtain ⟨h3, h4⟩ := ite_some h2
  obtain ⟨ce, hc, rfl⟩ := Option.map_eq_some_iff.mp h4
  obtain ⟨s1, s2, s3⟩ := slotS_ok G hi
  exact snd_augI G.nd s1 s2 s3 (ioOk_ok h3) ip_add (fun a b => rfl) (R.e G hc)
def stepS (bl : List Stmt → Option S) (r : Rc) (nm : Nm) : Stmt → Option S
  | .Pass _ => some .pass
  | .Break _ => some .brk
  | .Continue _ => some .cont
  | .Expr (.Constant (.str _) _ _) _ => some .pass
  | .Expr e _ => oneOf (cApp r nm e) (if isComp e = false then (r.e nm e).map .exp else none)
  | .Return none _ => some .retN
  | .Return (some e) _ => (r.e nm e).map .ret
  | .If t a b _ => (r.t nm t).bind fun ct => (bl a).bind fun ca => (bl b).bind fun cb => some (.ife ct ca cb)
  | .For tge iter body [] _ => (cTg nm tge).bind fun tg => if ioOks nm (tgs tg) = true then (cIter r nm tge tg iter).bind fun it => (bl body).map fun b => .for tg it.1 it.2 b else none
  | .While t body [] _ => (r.t nm t).bind fun ct => (bl body).map (.whl ct)
  | .Raise (some (.Call (.Name x _) [.Constant (.str _) _ _] [] _)) none _ => if glob nm x = true ∧ x ∈ nm.es then some (.rse x) else none
  | .Assign [t] e _ => cAsg r nm t e
  | .AugAssign (.Name x _) o e _ => cAug r nm x o e
  | _ => none
theorem stepS_ok (R : RcOk cx r) (G : GoodS cx nm X W) (B : ∀ {sts c}, bl sts = some c → SndSs cx X W nm.io sts c) {st : Stmt} {c : S} (h : stepS bl r nm st = some c) : SndS cx X W nm.io st c := by
  unfold stepS at h
  split at h
  · cases h; exact snd_pass
  · cases h; exact snd_brk
  · cases h; exact snd_cont
  · cases h; exact snd_doc
  · rcases oneOf_some h with h | h
    · exact cApp_ok R G.g h
    · obtain ⟨h1, h2⟩ := ite_some h
      obtain ⟨ce, hc, rfl⟩ := Option.map_eq_some_iff.mp h2
      exact snd_expr (sw1 h1) (R.e G.g hc)
  · cases h; exact snd_retN
  · obtain ⟨ce, hc, rfl⟩ := Option.map_eq_some_iff.mp h
    exact snd_ret (R.e G.g hc)
  · obtain ⟨ct, ht, h1⟩ := Option.bind_eq_some_iff.mp h
    obtain ⟨ca, ha, h2⟩ := Option.bind_eq_some_iff.mp h1
    obtain ⟨cb, hb, h3⟩ := Option.bind_eq_some_iff.mp h2
    cases h3
    exact snd_if (R.t G.g ht) (B ha) (B hb)
  · obtain ⟨tg, htg, h1⟩ := Option.bind_eq_some_iff.mp h
    obtain ⟨h2, h3⟩ := ite_some h1
    obtain ⟨it, hit, h4⟩ := Option.bind_eq_some_iff.mp h3
    obtain ⟨b, hb, rfl⟩ := Option.map_eq_some_iff.mp h4
    obtain ⟨i1, i2⟩ := cIter_ok R G.g hit
    exact snd_for G.po G.g.calm i2 (cTg_ok G.g htg) (ioOks_ok h2) i1 (B hb)
  · obtain ⟨ct, ht, h1⟩ := Option.bind_eq_some_iff.mp h
    obtain ⟨b, hb, rfl⟩ := Option.map_eq_some_iff.mp h1
    exact snd_whl G.po (R.t G.g ht) (B hb)
  · obtain ⟨⟨h1, h2⟩, h3⟩ := ite_some h
    cases h3
    obtain ⟨g1, g2, g3⟩ := glob_ok G.g h1
    obtain ⟨C0, bmB, Bn, newId, initId, e1, e2, e3, e4, e5⟩ := G.ex _ h2
    exact snd_rse G.g.calm G.g.tk e1 e2 e3 e4 e5 g1 g2
  · exact cAsg_ok R G.g h
  · exact cAug_ok R G.g h
  · cases h
def cBlk (f : Stmt → Option S) : List Stmt → Option S
  | [] => some .nil
  | s :: r => (f s).bind fun a => (cBlk f r).map (.seq a)
theorem cBlk_ok {f : Stmt → Option S} {io : Bool} (F : ∀ {s c}, f s = some c → SndS cx X W io s c) : ∀ {sts : List Stmt} {c : S}, cBlk f sts = some c → SndSs cx X W io sts c
  | [], _, h => by cases h; exact sndSs_nil
  | s :: r, c, h => by
    obtain ⟨a, ha, h1⟩ := Option.bind_eq_some_iff.mp (show ((f s).bind fun a => (cBlk f r).map (S.seq a)) = some c from h)
    obtain ⟨b, hb, rfl⟩ := Option.map_eq_some_iff.mp h1
    exact sndSs_cons (F ha) (cBlk_ok F hb)
def cS (r : Rc) (nm : Nm) : Nat → Stmt → Option S
  | 0, _ => none
  | n + 1, st => stepS (cBlk (cS r nm n)) r nm st
theorem cS_ok (R : RcOk cx r) (G : GoodS cx nm X W) : ∀ n {st c}, cS r nm n st = some c → SndS cx X W nm.io st c
  | 0, _, _, h => nomatch h
  | n + 1, _, _, h => stepS_ok R G (fun h => cBlk_ok (cS_ok R G n) h) h
end
/-- a def's body -/
def comp (nm : Nm) (sts : List Stmt) : Option S := cBlk (cS (rc 30) nm 12) sts
theorem comp_ok {cx : Ctx} {nm : Nm} {X : Cx} {W : Wish} {sts : List Stmt} {c : S} (G : GoodS cx nm X W) (h : comp nm sts = some c) : SndSs cx X W nm.io sts c := cBlk_ok (cS_ok (rc_ok 30) G 12) h
end Iv
set_option maxRecDepth 100000
set_option maxHeartbeats 4000000
/-! Iv20: a whole program of own defs; the end. -/
namespace Iv
open PySem PySem.Spec PyProof.Rows L2

structure Def where
  x : Str
  st : Stmt
  N : List Str
  ps : List Str
  io : Bool
  c : S
def fiOf (cx : Ctx) (d : Def) : FI := ⟨d.ps.length, d.io, run cx d.N.length d.io d.c⟩
/-- all defs so far, the callees first -/
def fisOf (fuel : Nat) : List Def → List FI
  | [] => []
  | d :: r => fisOf fuel r ++ [fiOf ⟨fisOf fuel r, fuel⟩ d]
/-- names of the defs so far (the last one first) -/
def fnames : List Def → List (Str × (Nat × Nat))
  | [] => []
  | d :: r => (d.x, (r.length, d.ps.length)) :: fnames r
def nmOf (ks : List (Str × Int)) (es : List Str) (r : List Def) (d : Def) : Nm := ⟨d.N, defScope d.st, cellsOf (defScope d.st), fnames r, ks, es, d.io⟩
def scopeC (N P : List Str) (sc : Scope) : Bool :=
  (match sc.kind with | .function => true | _ => false) && !sc.isCoroutine && !sc.isGenerator && decide N.Nodup && decide (N.take P.length = P) && (P.all fun x => decide (sc.names.lookup x = some .local) || decide (sc.names.lookup x = some .cell)) && (sc.names.all fun y => match y.2 with | .free => false | _ => true)
theorem scopeC_ok {N P : List Str} {sc : Scope} (h : scopeC N P sc = true) : FnScope N P sc := by
  unfold scopeC at h
  simp only [Bool.and_eq_true, Bool.not_eq_true', decide_eq_true_eq, List.all_eq_true, Bool.or_eq_true] at h
  obtain ⟨⟨⟨⟨⟨⟨h1, h2⟩, h3⟩, h4⟩, h5⟩, h6⟩, h7⟩ := h
  refine ⟨?_, h2, h3, h4, h5, h6, fun y hy e => ?_⟩
  · split at h1
    · assumption
    · cases h1
  · have := h7 y hy
    rw [e] at this
    cases this
section
variable {K : PySem.W.Frag} {mg : Str → Option Value} {P : Program} {w : World} {base : Heap} {fuel : Nat} {ks : List (Str × Int)} {es : List Str}
structure DefAt (K : PySem.W.Frag) (mg : Str → Option Value) (d : Def) : Prop where
  ex : ∃ (f : Addr) (fd : FuncData), mg d.x = some (.ref f) ∧ Fun K d.x d.x d.st f fd ∧ Binds K fd d.ps []
def ExcG (K : PySem.W.Frag) (mg : Str → Option Value) (x : Str) : Prop := ∃ (C0 : Addr) (bmB : List Value) (Bn newId initId : String), ExcBaseFacts Bn newId initId bmB ∧ PySem.W.excIn K C0 bmB newId = true ∧ mg x = some (.ref C0) ∧ PySem.W.keepIn K (.ref C0) = true ∧ PySem.W.subIn K (.ref C0) (.type "BaseException") = some true ∧ PySem.W.typeIn K (.ref C0) = some (.type "type")
structure Txt (K : PySem.W.Frag) (mg : Str → Option Value) (ks : List (Str × Int)) (es : List Str) : Prop where
  ks : ∀ x d, ks.lookup x = some d → ∃ t, mg x = some (.int d t)
  bi : ∀ x ∈ bis, mg x = none
  es : ∀ x ∈ es, ExcG K mg x
/-- the defs of r keep their promises -/
def AllOk (P : Program) (w : World) (K : PySem.W.Frag) (mg : Str → Option Value) (base : Heap) (fuel : Nat) : List Def → Prop
  | [] => True
  | d :: r => (∃ f fd, mg d.x = some (.ref f) ∧ PySem.W.keepIn K (.ref f) = true ∧ Binds K fd d.ps [] ∧ FnOk P w K mg base (L2.CX P w) (r.length + 1) f fd d.ps (spF K ⟨mg, P, w⟩ (fiOf ⟨fisOf fuel r, fuel⟩ d))) ∧ AllOk P w K mg base fuel r
theorem fis_len : ∀ r : List Def, (fisOf fuel r).length = r.length
  | [] => rfl
  | d :: r => by simp [fisOf, fis_len r]
theorem fis_get {x : Str} {i n : Nat} : ∀ {r : List Def}, AllOk P w K mg base fuel r → (fnames r).lookup x = some (i, n) → ∃ fi, (fisOf fuel r)[i]? = some fi ∧ fi.n = n ∧ i < r.length ∧ ∃ f fd ps, mg x = some (.ref f) ∧ PySem.W.keepIn K (.ref f) = true ∧ Binds K fd ps [] ∧ fi.n = ps.length ∧ FnOk P w K mg base (L2.CX P w) (i + 1) f fd ps (spF K ⟨mg, P, w⟩ fi)
  | [], _, h => by cases h
  | d :: r, ⟨⟨f, fd, h1, h2, h3, h4⟩, hr⟩, h => by
    unfold fnames at h
    rw [List.lookup_cons] at h
    split at h
    · rename_i e
      have e := eq_of_beq e
      subst e
      cases h
      refine ⟨fiOf ⟨fisOf fuel r, fuel⟩ d, ?_, rfl, Nat.lt_succ_self _, f, fd, d.ps, h1, h2, h3, rfl, h4⟩
      show (fisOf fuel r ++ [fiOf ⟨fisOf fuel r, fuel⟩ d])[r.length]? = _
      rw [List.getElem?_append_right (by rw [fis_len]; exact Nat.le_refl _), fis_len, Nat.sub_self]
      rfl
    · obtain ⟨fi, q1, q2, q3, q⟩ := fis_get hr h
      refine ⟨fi, ?_, q2, Nat.lt_succ_of_lt q3, q⟩
      show (fisOf fuel r ++ [fiOf ⟨fisOf fuel r, fuel⟩ d])[i]? = _
      rw [List.getElem?_append_left (by rw [fis_len]; exact q3)]
      exact q1
theorem def_fn {r : List Def} {d : Def} {f : Addr} {fd : FuncData} (hr : AllOk P w K mg base fuel r) (T : Txt K mg ks es) (F : Fun K d.x d.x d.st f fd) (hs : scopeC d.N d.ps (defScope d.st) = true) (hc : comp (nmOf ks es r d) (defBody d.st) = some d.c) :
    FnOk P w K mg base (L2.CX P w) (r.length + 1) f fd d.ps (spF K ⟨mg, P, w⟩ (fiOf ⟨fisOf fuel r, fuel⟩ d)) := by
  have S := scopeC_ok hs
  refine fn_ok (mg := ⟨mg, P, w⟩) (cx := ⟨fisOf fuel r, fuel⟩) (c := d.c) F S rfl (fun cdv A outer s H E hroom => ?_) fun ds => rfl
  have hG : GoodS ⟨fisOf fuel r, fuel⟩ (nmOf ks es r d) (cxOf (L2.CX P w) P w K mg base d.N d.x (defScope d.st) f cdv A outer s H E) (WB ⟨mg, P, w⟩ E) :=
    { g := {
        N := rfl
        nd := S.nd
        sc := rfl
        kind := S.kind
        calm := rfl
        fn := fun _ _ => rfl
        hu := by have := hroom.un; show (A.deeper _).units + 150 < cLine; omega
        fs := fun x i n h => by
          obtain ⟨fi, q1, q2, q3, f', fd', ps, q4, q5, q6, q7, q8⟩ := fis_get hr h
          exact ⟨fi, q1, q2, i + 1, f', fd', ps, q4, q5, q6, q7, q8, hroom.mono q3⟩
        ks := T.ks
        bi := T.bi
        tk := (takes_of (E := E) rfl rfl rfl rfl).imp fun c d σ H h => wB_out (X := cxOf (L2.CX P w) P w K mg base _ _ _ f cdv A outer s _ E) rfl h }
      po := passes_of rfl
      ex := fun x hx => by
        obtain ⟨C0, bmB, Bn, newId, initId, e1, e2, e3, e4, e5, e6⟩ := T.es x hx
        exact ⟨C0, bmB, Bn, newId, initId, e1, e2, e3, e4, raises_own e5 e6⟩ }
  exact comp_ok hG hc
theorem def_ok {r : List Def} {d : Def} (hr : AllOk P w K mg base fuel r) (T : Txt K mg ks es) (D : DefAt K mg d) (hs : scopeC d.N d.ps (defScope d.st) = true) (hc : comp (nmOf ks es r d) (defBody d.st) = some d.c) : AllOk P w K mg base fuel (d :: r) := by
  obtain ⟨f, fd, h1, F, hb⟩ := D.ex
  exact ⟨⟨f, fd, h1, F.kp, hb, def_fn hr T F hs hc⟩, hr⟩

/-! ### the end -/
theorem loose_int {lv : List (Str × PySem.W.WData)} {h : Heap} (L : PySem.W.LooseAre lv mg h) {x : Str} {n : Int} (hx : (x, PySem.W.WData.int n) ∈ lv) : ∃ t, mg x = some (.int n t) := by
  obtain ⟨v, h1, h2⟩ := L.val _ hx
  cases h2
  exact ⟨_, h1⟩
/-- as walk_of, with the names that the head has left loose -/
theorem walk_ofL {l : PySem.W.OpenLaw} {n k : Nat} {q : Program} {loose : List Str} {lv : List (Str × PySem.W.WData)} {YP : World → Heap → Prop} {d : DefRec} {K : Params → PySem.W.Frag} {fi : FI} {x : Str}
    (hn : l.most = some n) (hn2 : n ≤ sizeLine) (hdf : d.params.defaults = []) (hr : Room k callerA)
    (hY : ∀ (w : World) (h : Heap), YP w h → (K w.params).In h)
    (F : ∀ (w : World) (mg : Str → Option Value) (fa : Addr) (h : Heap), (K w.params).In h → h.Ns mainGlobals mg → PySem.W.LooseAre lv mg h → mg d.name = some (.ref fa) →
      ∃ fd : FuncData, (∀ (s : Shared) (u : Value), BindsTo s fd ⟨[u], []⟩ [(x, u)]) ∧
        ∀ base : Heap, (K w.params).In base → base.Ns mainGlobals mg → FnOk l.prog w (K w.params) mg base (L2.CX l.prog w) k fa fd [x] (spF (K w.params) ⟨mg, l.prog, w⟩ fi))
    (hfi : fi.n = 1 ∧ fi.io = false) (hsem : ∀ ns : List Int, ns.length ≤ n → fi.sem [scrD ns] = .ok (.bool true) false) :
    PySem.W.WalkO q loose (PySem.W.XL q lv) YP l.row.toRowW d [] (fun f vs => PySem.call f vs) := by
  refine Att.attach_call hn hdf fun w s₀ s₁ mg mb fa o pm cd doc a vs ns G Y ho hd hcd hmg hobj hints hlen hg => ?_
  have KX := hY w _ Y
  obtain ⟨fd, hb, hF⟩ := F w mg fa _ KX G.T.g G.X.2 hmg
  refine law_call KX G.T.g G.T.b G.T.builtins G.T.nolimit hg hobj hints (Nat.le_trans hlen hn2) hr hF hb (fun H hO hS => ?_) fun H e s' h => ?_
  · refine ⟨hfi.1.symm, fun _ => False, fun _ z => z.elim, ?_⟩
    rw [hfi.2]
    refine ⟨[scrD ns], .cons (.scr (SqL.ex (fun a o e => hid_some.mpr ⟨fun z => z, e⟩) hS)) .nil, ?_⟩
    rw [hsem ns hlen]
    intro v H1 ex hv
    cases hv
    rfl
  · obtain ⟨_, _, _, _, _, _, _, _, _, _, _, _, z⟩ := h
    exact z
theorem mg_ks {h : Heap} (X : K.In h) (G : h.Ns mainGlobals mg) {x : Str} {d : Int} {t : Tok} (e : PySem.W.nsIn K mainGlobals x = some (some (.int d t))) : ∃ t, mg x = some (.int d t) := ⟨t, PySem.W.mg_of X G e⟩
theorem def_mk {h : Heap} (X : K.In h) (G : h.Ns mainGlobals mg) {d : Def} {f : Addr} {oc kV dc pm cd ct : Value} {od an : Option Addr} {sl : Array (Option Value)}
    (a : PySem.W.nsIn K mainGlobals d.x = some (some (.ref f))) (l : K.lookup f = some ⟨oc, od, .func (PySem.W.fnOf d.x d.x (defArgs d.st) (defBody d.st) (defScope d.st) .none kV dc pm an cd ct), sl⟩) (c : PySem.W.codeIn K cd d.x = true) (k : PySem.W.keepIn K (.ref f) = true)
    (b : ∀ (kV doc pm : Value) (an : Option Addr) (cdv ct : Value) (us : List Value), us.length = d.ps.length → bindArgs (PySem.W.fnOf d.x d.x (defArgs d.st) (defBody d.st) (defScope d.st) .none kV doc pm an cdv ct) ⟨us, []⟩ = pure (d.ps.zip us)) : DefAt K mg d := by
  have F := fun_mk (st := d.st) l c k
  exact ⟨f, _, PySem.W.mg_of X G a, F, F.binds b⟩
end
end Iv
set_option maxRecDepth 100000
set_option maxHeartbeats 4000000
/-! k07: the defs of the text, their codes. -/
namespace Iv
open PySem PySem.Spec PyProof.Rows L2
def top (i : Nat) : Stmt := PySem.Challenge.pw_contralines_k07_whole_lines_with_the_sam.main.body.getD i (.Pass ⟨0, 0, 0, 0⟩)
def c__law_bag : S := (.seq (.asg 2 (.k (.int 0))) (.seq (.ife (.tr (.cmp .Lt (.v 1) (.bi .len (.cons (.v 0) .nil)))) (.seq (.asg 2 (.op .Mod (.ix (.v 0) (.v 1)) (.op .Pow (.k (.int 10)) (.k (.int 60))))) .nil) .nil) (.seq (.asg 3 (.op .Add (.k (.int 1)) (.op .Mod (.op .Add (.op .Add (.op .Add (.op .Mult (.op .Mod (.v 2) (.k (.int 2147483629))) (.k (.int 16807))) (.op .Mult (.op .Mult (.k (.int 40009)) (.v 1)) (.v 1))) (.op .Mult (.k (.int 7919)) (.v 1))) (.k (.int 1009))) (.k (.int 2147483645))))) (.seq (.ife (.tr (.cmp .Lt (.v 2) (.op .Pow (.k (.int 10)) (.k (.int 18))))) (.seq (.ret (.lst (.cons (.k (.int 0)) (.cons (.v 3) .nil)))) .nil) .nil) (.seq (.ret (.lst (.cons (.v 2) (.cons (.v 3) .nil)))) .nil)))))
def d__law_bag : Def := ⟨"_law_bag", top 20, ["script", "k", "cell", "seed"], ["script", "k"], false, c__law_bag⟩
def c__law_take : S := (.seq (.ife (.tr (.cmp .Gt (.ix (.v 0) (.k (.int 0))) (.k (.int 0)))) (.seq (.asg 2 (.op .Mod (.ix (.v 0) (.k (.int 0))) (.v 1))) (.seq (.set 0 (.k (.int 0)) (.op .FloorDiv (.ix (.v 0) (.k (.int 0))) (.v 1))) (.seq (.ret (.v 2)) .nil))) .nil) (.seq (.set 0 (.k (.int 1)) (.op .Mod (.op .Mult (.ix (.v 0) (.k (.int 1))) (.k (.int 48271))) (.k (.int 2147483647)))) (.seq (.ret (.op .Mod (.op .FloorDiv (.op .Mod (.op .Mult (.op .FloorDiv (.ix (.v 0) (.k (.int 1))) (.k (.int 13))) (.op .Add (.op .Mod (.ix (.v 0) (.k (.int 1))) (.k (.int 32749))) (.k (.int 17)))) (.k (.int 2147483629))) (.k (.int 32))) (.v 1))) .nil)))
def d__law_take : Def := ⟨"_law_take", top 21, ["bag", "count", "found"], ["bag", "count"], true, c__law_take⟩
def c__law_line : S := (.seq (.par [2, 3] (.cons (.bi .lrange (.cons (.k (.int 100)) .nil)) (.cons (.lst .nil) .nil))) (.seq (.for (.n 4) .r1 (.cons (.op .Add (.k (.int 2)) (.call 1 (.cons (.v 0) (.cons (.op .Sub (.v 1) (.k (.int 1))) .nil)))) .nil) (.seq (.app 3 (.popi 2 (.call 1 (.cons (.v 0) (.cons (.bi .len (.cons (.v 2) .nil)) .nil))))) .nil)) (.seq (.ret (.bi .tuple (.cons (.v 3) .nil))) .nil)))
def d__law_line : Def := ⟨"_law_line", top 23, ["bag", "most", "left", "found", "turn"], ["bag", "most"], true, c__law_line⟩
def c__law_danced : S := (.seq (.par [2, 3] (.cons (.bi .list (.cons (.v 0) .nil)) (.cons (.lst .nil) .nil))) (.seq (.for (.n 4) .r3 (.cons (.op .Mod (.v 1) (.k (.int 2))) (.cons (.op .Sub (.bi .len (.cons (.v 2) .nil)) (.k (.int 1))) (.cons (.k (.int 2)) .nil))) (.seq (.app 3 (.tup (.cons (.ix (.v 2) (.v 4)) (.cons (.ix (.v 2) (.op .Add (.v 4) (.k (.int 1)))) .nil)))) .nil)) (.seq (.asg 7 (.op .Add (.lc [5, 6] (.v 5) (.t [5, 6]) .seq (.cons (.v 3) .nil) (.k (.bool true))) (.lc [5, 6] (.v 6) (.t [5, 6]) .seq (.cons (.v 3) .nil) (.k (.bool true))))) (.seq (.for (.t [5, 6]) .seq (.cons (.v 3) .nil) (.seq (.asg 8 (.me .index (.v 2) (.cons (.v 5) .nil))) (.seq (.set2 2 (.v 8) (.op .Add (.v 8) (.k (.int 1))) (.cons (.v 6) (.cons (.v 5) .nil))) .nil))) (.seq (.ret (.tup (.cons (.v 3) (.cons (.lc [9] (.v 9) (.n 9) .seq (.cons (.v 0) .nil) (.tr (.cmp .NotIn (.v 9) (.v 7)))) (.cons (.bi .tuple (.cons (.v 2) .nil)) .nil))))) .nil)))))
def d__law_danced : Def := ⟨"_law_danced", top 25, ["line", "number", "rows", "pairs", "place", "one", "other", "busy", "at", "couple"], ["line", "number"], false, c__law_danced⟩
def c__law_met : S := (.seq (.par [3, 4] (.cons (.dic .nil .nil) (.cons (.v 0) .nil))) (.seq (.for (.n 5) .r1 (.cons (.v 2) .nil) (.seq (.asgT [6, 7, 4] (.call 3 (.cons (.v 4) (.cons (.op .Add (.v 1) (.v 5)) .nil)))) (.seq (.for (.t [8, 9]) .seq (.cons (.op .Add (.v 6) (.lc [11] (.tup (.cons (.v 11) (.cons (.v 11) .nil))) (.n 11) .seq (.cons (.v 7) .nil) (.k (.bool true)))) .nil) (.seq (.asg 10 (.tup (.cons (.bi .min2 (.cons (.v 8) (.cons (.v 9) .nil))) (.cons (.bi .max2 (.cons (.v 8) (.cons (.v 9) .nil))) .nil)))) (.seq (.set 3 (.v 10) (.op .Add (.me .get2 (.v 3) (.cons (.v 10) (.cons (.lst .nil) .nil))) (.lst (.cons (.op .Add (.v 1) (.v 5)) .nil)))) .nil))) .nil))) (.seq (.ret (.tup (.cons (.v 3) (.cons (.v 4) .nil)))) .nil)))
def d__law_met : Def := ⟨"_law_met", top 26, ["line", "number", "many", "found", "here", "turn", "pairs", "idle", "one", "other", "key", "couple"], ["line", "number", "many"], false, c__law_met⟩
def c_is_integer : S := (.seq (.ret (.andv (.bi .isint (.cons (.v 0) .nil)) (.andv (.notv (.bi .isbool (.cons (.v 0) .nil))) (.ch .LtE .LtE (.v 1) (.v 0) (.v 2))))) .nil)
def d_is_integer : Def := ⟨"is_integer", top 9, ["value", "low", "high"], ["value", "low", "high"], false, c_is_integer⟩
def c_is_line : S := (.seq (.ife (.ort (.nott (.tr (.bi .istup (.cons (.v 0) .nil)))) (.nott (.tr (.ch .LtE .LtE (.k (.int 2)) (.bi .len (.cons (.v 0) .nil)) (.k (.int 24)))))) (.seq (.ret (.k (.bool false))) .nil) .nil) (.seq (.ret (.andv (.bi .all (.cons (.lc [1] (.call 5 (.cons (.v 1) (.cons (.k (.int 0)) (.cons (.k (.int 99)) .nil)))) (.n 1) .seq (.cons (.v 0) .nil) (.k (.bool true))) .nil)) (.cmp .Eq (.bi .lenset (.cons (.v 0) .nil)) (.bi .len (.cons (.v 0) .nil))))) .nil))
def d_is_line : Def := ⟨"is_line", top 10, ["value", "couple"], ["value"], false, c_is_line⟩
def c_require_line : S := (.seq (.ife (.nott (.tr (.call 6 (.cons (.v 0) .nil)))) (.seq (.rse "InvalidLine") .nil) .nil) .nil)
def d_require_line : Def := ⟨"require_line", top 11, ["line"], ["line"], false, c_require_line⟩
def c_require_number : S := (.seq (.ife (.nott (.tr (.call 5 (.cons (.v 0) (.cons (.v 1) (.cons (.v 2) .nil)))))) (.seq (.rse "InvalidNumber") .nil) .nil) .nil)
def d_require_number : Def := ⟨"require_number", top 12, ["number", "low", "high"], ["number", "low", "high"], false, c_require_number⟩
def c_place_of : S := (.seq (.ret (.ife (.tr (.cmp .Lt (.v 1) (.v 0))) (.v 1) (.op .Sub (.op .Sub (.op .Mult (.k (.int 2)) (.v 0)) (.k (.int 1))) (.v 1)))) .nil)
def d_place_of : Def := ⟨"place_of", top 14, ["size", "spot"], ["size", "spot"], false, c_place_of⟩
def c_spot_of : S := (.seq (.ret (.ife (.tr (.cmp .Eq (.op .Mod (.op .Sub (.v 1) (.v 2)) (.k (.int 2))) (.k (.int 0)))) (.v 1) (.op .Sub (.op .Sub (.op .Mult (.k (.int 2)) (.v 0)) (.k (.int 1))) (.v 1)))) .nil)
def d_spot_of : Def := ⟨"spot_of", top 13, ["size", "place", "number"], ["size", "place", "number"], false, c_spot_of⟩
def c_moved : S := (.seq (.asg 3 (.bi .len (.cons (.v 0) .nil))) (.seq (.asg 4 (.lst .nil)) (.seq (.for (.t [5, 6]) .enum (.cons (.v 0) .nil) (.seq (.app 4 (.tup (.cons (.call 9 (.cons (.v 3) (.cons (.op .Mod (.op .Add (.call 10 (.cons (.v 3) (.cons (.v 5) (.cons (.v 1) .nil)))) (.v 2)) (.op .Mult (.k (.int 2)) (.v 3))) .nil))) (.cons (.v 6) .nil)))) .nil)) (.seq (.ret (.bi .tuple (.cons (.lc [5, 6] (.v 6) (.t [5, 6]) .seq (.cons (.bi .sorted (.cons (.v 4) .nil)) .nil) (.k (.bool true))) .nil))) .nil))))
def d_moved : Def := ⟨"moved", top 15, ["line", "number", "rounds", "size", "rows", "place", "couple"], ["line", "number", "rounds"], false, c_moved⟩
def c_line_after : S := (.seq (.exp (.call 7 (.cons (.v 0) .nil))) (.seq (.exp (.call 8 (.cons (.v 1) (.cons (.k (.int 0)) (.cons (.k (.int 1000000000000)) .nil))))) (.seq (.ret (.call 11 (.cons (.v 0) (.cons (.k (.int 0)) (.cons (.v 1) .nil))))) .nil)))
def d_line_after : Def := ⟨"line_after", top 16, ["line", "rounds"], ["line", "rounds"], false, c_line_after⟩
def c_same_dances : S := (.seq (.exp (.call 7 (.cons (.v 0) .nil))) (.seq (.exp (.call 7 (.cons (.v 1) .nil))) (.seq (.ret (.orv (.cmp .Eq (.v 0) (.v 1)) (.andv (.cmp .Eq (.op .Mod (.bi .len (.cons (.v 0) .nil)) (.k (.int 2))) (.k (.int 0))) (.cmp .Eq (.v 0) (.rev (.v 1)))))) .nil)))
def d_same_dances : Def := ⟨"same_dances", top 18, ["line", "other"], ["line", "other"], false, c_same_dances⟩
def c_law : S := (.seq (.for (.n 1) .r1 (.cons (.op .Add (.bi .min2 (.cons (.bi .len (.cons (.v 0) .nil)) (.cons (.k (.int 8)) .nil))) (.k (.int 2))) .nil) (.seq (.asg 2 (.call 0 (.cons (.v 0) (.cons (.v 1) .nil)))) (.seq (.asg 3 (.call 2 (.cons (.v 2) (.cons (.ix (.lst (.cons (.k (.int 4)) (.cons (.k (.int 12)) .nil))) (.call 1 (.cons (.v 2) (.cons (.k (.int 2)) .nil)))) .nil)))) (.seq (.asg 4 (.bi .len (.cons (.v 3) .nil))) (.seq (.asg 5 (.ix (.call 4 (.cons (.v 3) (.cons (.k (.int 0)) (.cons (.op .Mult (.k (.int 2)) (.v 4)) .nil)))) (.k (.int 0)))) (.seq (.asg 6 (.call 1 (.cons (.v 2) (.cons (.v 4) .nil)))) (.seq (.asg 7 (.op .Mod (.op .Add (.op .Add (.v 6) (.k (.int 1))) (.call 1 (.cons (.v 2) (.cons (.op .Sub (.v 4) (.k (.int 1))) .nil)))) (.v 4))) (.seq (.asg 8 (.bi .list (.cons (.v 3) .nil))) (.seq (.set2 8 (.v 6) (.v 7) (.cons (.ix (.v 8) (.v 7)) (.cons (.ix (.v 8) (.v 6)) .nil))) (.seq (.asg 9 (.lst (.cons (.v 3) (.cons (.rev (.v 3)) (.cons (.bi .tuple (.cons (.v 8) .nil)) (.cons (.bi .tuple (.cons (.rev (.v 8)) .nil)) (.cons (.call 12 (.cons (.v 3) (.cons (.k (.int 1)) .nil))) (.cons (.call 12 (.cons (.v 3) (.cons (.k (.int 2)) .nil))) .nil)))))))) (.seq (.asg 9 (.op .Add (.v 9) (.lst (.cons (.call 12 (.cons (.v 3) (.cons (.v 4) .nil))) (.cons (.call 2 (.cons (.v 2) (.cons (.k (.int 5)) .nil))) (.cons (.op .Add (.sl (.v 3) (.pt (.k (.int 1))) (.k .none)) (.sl (.v 3) (.k .none) (.pt (.k (.int 1))))) .nil)))))) (.seq (.ife (.tr (.cmp .Gt (.v 4) (.k (.int 2)))) (.seq (.app 9 (.sl (.v 3) (.pt (.k (.int 1))) (.k .none))) .nil) .nil) (.seq (.for (.n 10) .seq (.cons (.v 9) .nil) (.seq (.asg 11 (.cmp .Eq (.ix (.call 4 (.cons (.v 10) (.cons (.k (.int 0)) (.cons (.op .Mult (.k (.int 2)) (.v 4)) .nil)))) (.k (.int 0))) (.v 5))) (.seq (.ife (.ort (.tr (.cmp .NotEq (.call 13 (.cons (.v 3) (.cons (.v 10) .nil))) (.v 11))) (.tr (.cmp .NotEq (.call 13 (.cons (.v 10) (.cons (.v 3) .nil))) (.v 11)))) (.seq (.ret (.k (.bool false))) .nil) .nil) (.seq (.ife (.nott (.tr (.bi .isbool (.cons (.call 13 (.cons (.v 3) (.cons (.v 10) .nil))) .nil)))) (.seq (.ret (.k (.bool false))) .nil) .nil) .nil)))) (.seq (.ife (.tr (.cmp .NotEq (.call 13 (.cons (.v 3) (.cons (.rev (.v 3)) .nil))) (.cmp .Eq (.op .Mod (.v 4) (.k (.int 2))) (.k (.int 0))))) (.seq (.ret (.k (.bool false))) .nil) .nil) .nil)))))))))))))) (.seq (.ret (.andv (.cmp .Is (.call 13 (.cons (.tup (.cons (.k (.int 0)) (.cons (.k (.int 1)) (.cons (.k (.int 2)) (.cons (.k (.int 3)) .nil))))) (.cons (.tup (.cons (.k (.int 3)) (.cons (.k (.int 2)) (.cons (.k (.int 1)) (.cons (.k (.int 0)) .nil))))) .nil))) (.k (.bool true))) (.cmp .Is (.call 13 (.cons (.tup (.cons (.k (.int 0)) (.cons (.k (.int 1)) (.cons (.k (.int 2)) .nil)))) (.cons (.tup (.cons (.k (.int 2)) (.cons (.k (.int 1)) (.cons (.k (.int 0)) .nil)))) .nil))) (.k (.bool false))))) .nil))
def d_law : Def := ⟨"law", top 27, ["script", "k", "bag", "line", "size", "found", "one", "other", "changed", "some", "late", "due"], ["script"], false, c_law⟩
def ks0 : List (Str × Int) := [("FEWEST", 2), ("LARGEST", 99), ("LATEST", 10 ^ 12), ("MOST", 24)]
def es0 : List Str := ["InvalidLine", "InvalidNumber"]
def r__law_bag : List Def := []
theorem s__law_bag : scopeC d__law_bag.N d__law_bag.ps (defScope d__law_bag.st) = true := by decide +kernel
theorem k__law_bag : comp (nmOf ks0 es0 r__law_bag d__law_bag) (defBody d__law_bag.st) = some d__law_bag.c := by kernel_rfl
def r__law_take : List Def := [d__law_bag]
theorem s__law_take : scopeC d__law_take.N d__law_take.ps (defScope d__law_take.st) = true := by decide +kernel
theorem k__law_take : comp (nmOf ks0 es0 r__law_take d__law_take) (defBody d__law_take.st) = some d__law_take.c := by kernel_rfl
def r__law_line : List Def := [d__law_take, d__law_bag]
theorem s__law_line : scopeC d__law_line.N d__law_line.ps (defScope d__law_line.st) = true := by decide +kernel
theorem k__law_line : comp (nmOf ks0 es0 r__law_line d__law_line) (defBody d__law_line.st) = some d__law_line.c := by kernel_rfl
def r__law_danced : List Def := [d__law_line, d__law_take, d__law_bag]
theorem s__law_danced : scopeC d__law_danced.N d__law_danced.ps (defScope d__law_danced.st) = true := by decide +kernel
theorem k__law_danced : comp (nmOf ks0 es0 r__law_danced d__law_danced) (defBody d__law_danced.st) = some d__law_danced.c := by kernel_rfl
def r__law_met : List Def := [d__law_danced, d__law_line, d__law_take, d__law_bag]
theorem s__law_met : scopeC d__law_met.N d__law_met.ps (defScope d__law_met.st) = true := by decide +kernel
theorem k__law_met : comp (nmOf ks0 es0 r__law_met d__law_met) (defBody d__law_met.st) = some d__law_met.c := by kernel_rfl
def r_is_integer : List Def := [d__law_met, d__law_danced, d__law_line, d__law_take, d__law_bag]
theorem s_is_integer : scopeC d_is_integer.N d_is_integer.ps (defScope d_is_integer.st) = true := by decide +kernel
theorem k_is_integer : comp (nmOf ks0 es0 r_is_integer d_is_integer) (defBody d_is_integer.st) = some d_is_integer.c := by kernel_rfl
def r_is_line : List Def := [d_is_integer, d__law_met, d__law_danced, d__law_line, d__law_take, d__law_bag]
theorem s_is_line : scopeC d_is_line.N d_is_line.ps (defScope d_is_line.st) = true := by decide +kernel
theorem k_is_line : comp (nmOf ks0 es0 r_is_line d_is_line) (defBody d_is_line.st) = some d_is_line.c := by kernel_rfl
def r_require_line : List Def := [d_is_line, d_is_integer, d__law_met, d__law_danced, d__law_line, d__law_take, d__law_bag]
theorem s_require_line : scopeC d_require_line.N d_require_line.ps (defScope d_require_line.st) = true := by decide +kernel
theorem k_require_line : comp (nmOf ks0 es0 r_require_line d_require_line) (defBody d_require_line.st) = some d_require_line.c := by kernel_rfl
def r_require_number : List Def := [d_require_line, d_is_line, d_is_integer, d__law_met, d__law_danced, d__law_line, d__law_take, d__law_bag]
theorem s_require_number : scopeC d_require_number.N d_require_number.ps (defScope d_require_number.st) = true := by decide +kernel
theorem k_require_number : comp (nmOf ks0 es0 r_require_number d_require_number) (defBody d_require_number.st) = some d_require_number.c := by kernel_rfl
def r_place_of : List Def := [d_require_number, d_require_line, d_is_line, d_is_integer, d__law_met, d__law_danced, d__law_line, d__law_take, d__law_bag]
theorem s_place_of : scopeC d_place_of.N d_place_of.ps (defScope d_place_of.st) = true := by decide +kernel
theorem k_place_of : comp (nmOf ks0 es0 r_place_of d_place_of) (defBody d_place_of.st) = some d_place_of.c := by kernel_rfl
def r_spot_of : List Def := [d_place_of, d_require_number, d_require_line, d_is_line, d_is_integer, d__law_met, d__law_danced, d__law_line, d__law_take, d__law_bag]
theorem s_spot_of : scopeC d_spot_of.N d_spot_of.ps (defScope d_spot_of.st) = true := by decide +kernel
theorem k_spot_of : comp (nmOf ks0 es0 r_spot_of d_spot_of) (defBody d_spot_of.st) = some d_spot_of.c := by kernel_rfl
def r_moved : List Def := [d_spot_of, d_place_of, d_require_number, d_require_line, d_is_line, d_is_integer, d__law_met, d__law_danced, d__law_line, d__law_take, d__law_bag]
theorem s_moved : scopeC d_moved.N d_moved.ps (defScope d_moved.st) = true := by decide +kernel
theorem k_moved : comp (nmOf ks0 es0 r_moved d_moved) (defBody d_moved.st) = some d_moved.c := by kernel_rfl
def r_line_after : List Def := [d_moved, d_spot_of, d_place_of, d_require_number, d_require_line, d_is_line, d_is_integer, d__law_met, d__law_danced, d__law_line, d__law_take, d__law_bag]
theorem s_line_after : scopeC d_line_after.N d_line_after.ps (defScope d_line_after.st) = true := by decide +kernel
theorem k_line_after : comp (nmOf ks0 es0 r_line_after d_line_after) (defBody d_line_after.st) = some d_line_after.c := by kernel_rfl
def r_same_dances : List Def := [d_line_after, d_moved, d_spot_of, d_place_of, d_require_number, d_require_line, d_is_line, d_is_integer, d__law_met, d__law_danced, d__law_line, d__law_take, d__law_bag]
theorem s_same_dances : scopeC d_same_dances.N d_same_dances.ps (defScope d_same_dances.st) = true := by decide +kernel
theorem k_same_dances : comp (nmOf ks0 es0 r_same_dances d_same_dances) (defBody d_same_dances.st) = some d_same_dances.c := by kernel_rfl
def r_law : List Def := [d_same_dances, d_line_after, d_moved, d_spot_of, d_place_of, d_require_number, d_require_line, d_is_line, d_is_integer, d__law_met, d__law_danced, d__law_line, d__law_take, d__law_bag]
theorem s_law : scopeC d_law.N d_law.ps (defScope d_law.st) = true := by decide +kernel
theorem k_law : comp (nmOf ks0 es0 r_law d_law) (defBody d_law.st) = some d_law.c := by kernel_rfl
def fuel0 : Nat := 1000000
def fi_law : FI := fiOf ⟨fisOf fuel0 r_law, fuel0⟩ d_law
theorem all_mk {P : Program} {w : World} {K : PySem.W.Frag} {h : Heap} {mg : Str → Option Value} {fa : Addr} (X : K.In h) (G : h.Ns mainGlobals mg) (L : PySem.W.LooseAre [("LATEST", PySem.W.WData.int 1000000000000)] mg h) (hfa : mg "law" = some (.ref fa))
    {f0 f1 f2 f3 f4 f5 f6 f7 f8 f9 f10 f11 f12 f13 f14 E0 E1 : Addr} {od0 an0 od1 an1 od2 an2 od3 an3 od4 an4 od5 an5 od6 an6 od7 an7 od8 an8 od9 an9 od10 an10 od11 an11 od12 an12 od13 an13 od14 an14 : Option Addr} {sl0 sl1 sl2 sl3 sl4 sl5 sl6 sl7 sl8 sl9 sl10 sl11 sl12 sl13 sl14 : Array (Option Value)} {oc0 kV0 dc0 pm0 cd0 ct0 oc1 kV1 dc1 pm1 cd1 ct1 oc2 kV2 dc2 pm2 cd2 ct2 oc3 kV3 dc3 pm3 cd3 ct3 oc4 kV4 dc4 pm4 cd4 ct4 oc5 kV5 dc5 pm5 cd5 ct5 oc6 kV6 dc6 pm6 cd6 ct6 oc7 kV7 dc7 pm7 cd7 ct7 oc8 kV8 dc8 pm8 cd8 ct8 oc9 kV9 dc9 pm9 cd9 ct9 oc10 kV10 dc10 pm10 cd10 ct10 oc11 kV11 dc11 pm11 cd11 ct11 oc12 kV12 dc12 pm12 cd12 ct12 oc13 kV13 dc13 pm13 cd13 ct13 oc14 kV14 dc14 pm14 cd14 ct14 : Value} {t0 t1 t3 : Tok}
    (a0 : PySem.W.nsIn K mainGlobals "_law_bag" = some (some (.ref f0)))
    (l0 : K.lookup f0 = some ⟨oc0, od0, .func (PySem.W.fnOf "_law_bag" "_law_bag" (defArgs d__law_bag.st) (defBody d__law_bag.st) (defScope d__law_bag.st) .none kV0 dc0 pm0 an0 cd0 ct0), sl0⟩)
    (c0 : PySem.W.codeIn K cd0 "_law_bag" = true)
    (k0 : PySem.W.keepIn K (.ref f0) = true)
    (a1 : PySem.W.nsIn K mainGlobals "_law_take" = some (some (.ref f1)))
    (l1 : K.lookup f1 = some ⟨oc1, od1, .func (PySem.W.fnOf "_law_take" "_law_take" (defArgs d__law_take.st) (defBody d__law_take.st) (defScope d__law_take.st) .none kV1 dc1 pm1 an1 cd1 ct1), sl1⟩)
    (c1 : PySem.W.codeIn K cd1 "_law_take" = true)
    (k1 : PySem.W.keepIn K (.ref f1) = true)
    (a2 : PySem.W.nsIn K mainGlobals "_law_line" = some (some (.ref f2)))
    (l2 : K.lookup f2 = some ⟨oc2, od2, .func (PySem.W.fnOf "_law_line" "_law_line" (defArgs d__law_line.st) (defBody d__law_line.st) (defScope d__law_line.st) .none kV2 dc2 pm2 an2 cd2 ct2), sl2⟩)
    (c2 : PySem.W.codeIn K cd2 "_law_line" = true)
    (k2 : PySem.W.keepIn K (.ref f2) = true)
    (a3 : PySem.W.nsIn K mainGlobals "_law_danced" = some (some (.ref f3)))
    (l3 : K.lookup f3 = some ⟨oc3, od3, .func (PySem.W.fnOf "_law_danced" "_law_danced" (defArgs d__law_danced.st) (defBody d__law_danced.st) (defScope d__law_danced.st) .none kV3 dc3 pm3 an3 cd3 ct3), sl3⟩)
    (c3 : PySem.W.codeIn K cd3 "_law_danced" = true)
    (k3 : PySem.W.keepIn K (.ref f3) = true)
    (a4 : PySem.W.nsIn K mainGlobals "_law_met" = some (some (.ref f4)))
    (l4 : K.lookup f4 = some ⟨oc4, od4, .func (PySem.W.fnOf "_law_met" "_law_met" (defArgs d__law_met.st) (defBody d__law_met.st) (defScope d__law_met.st) .none kV4 dc4 pm4 an4 cd4 ct4), sl4⟩)
    (c4 : PySem.W.codeIn K cd4 "_law_met" = true)
    (k4 : PySem.W.keepIn K (.ref f4) = true)
    (a5 : PySem.W.nsIn K mainGlobals "is_integer" = some (some (.ref f5)))
    (l5 : K.lookup f5 = some ⟨oc5, od5, .func (PySem.W.fnOf "is_integer" "is_integer" (defArgs d_is_integer.st) (defBody d_is_integer.st) (defScope d_is_integer.st) .none kV5 dc5 pm5 an5 cd5 ct5), sl5⟩)
    (c5 : PySem.W.codeIn K cd5 "is_integer" = true)
    (k5 : PySem.W.keepIn K (.ref f5) = true)
    (a6 : PySem.W.nsIn K mainGlobals "is_line" = some (some (.ref f6)))
    (l6 : K.lookup f6 = some ⟨oc6, od6, .func (PySem.W.fnOf "is_line" "is_line" (defArgs d_is_line.st) (defBody d_is_line.st) (defScope d_is_line.st) .none kV6 dc6 pm6 an6 cd6 ct6), sl6⟩)
    (c6 : PySem.W.codeIn K cd6 "is_line" = true)
    (k6 : PySem.W.keepIn K (.ref f6) = true)
    (a7 : PySem.W.nsIn K mainGlobals "require_line" = some (some (.ref f7)))
    (l7 : K.lookup f7 = some ⟨oc7, od7, .func (PySem.W.fnOf "require_line" "require_line" (defArgs d_require_line.st) (defBody d_require_line.st) (defScope d_require_line.st) .none kV7 dc7 pm7 an7 cd7 ct7), sl7⟩)
    (c7 : PySem.W.codeIn K cd7 "require_line" = true)
    (k7 : PySem.W.keepIn K (.ref f7) = true)
    (a8 : PySem.W.nsIn K mainGlobals "require_number" = some (some (.ref f8)))
    (l8 : K.lookup f8 = some ⟨oc8, od8, .func (PySem.W.fnOf "require_number" "require_number" (defArgs d_require_number.st) (defBody d_require_number.st) (defScope d_require_number.st) .none kV8 dc8 pm8 an8 cd8 ct8), sl8⟩)
    (c8 : PySem.W.codeIn K cd8 "require_number" = true)
    (k8 : PySem.W.keepIn K (.ref f8) = true)
    (a9 : PySem.W.nsIn K mainGlobals "place_of" = some (some (.ref f9)))
    (l9 : K.lookup f9 = some ⟨oc9, od9, .func (PySem.W.fnOf "place_of" "place_of" (defArgs d_place_of.st) (defBody d_place_of.st) (defScope d_place_of.st) .none kV9 dc9 pm9 an9 cd9 ct9), sl9⟩)
    (c9 : PySem.W.codeIn K cd9 "place_of" = true)
    (k9 : PySem.W.keepIn K (.ref f9) = true)
    (a10 : PySem.W.nsIn K mainGlobals "spot_of" = some (some (.ref f10)))
    (l10 : K.lookup f10 = some ⟨oc10, od10, .func (PySem.W.fnOf "spot_of" "spot_of" (defArgs d_spot_of.st) (defBody d_spot_of.st) (defScope d_spot_of.st) .none kV10 dc10 pm10 an10 cd10 ct10), sl10⟩)
    (c10 : PySem.W.codeIn K cd10 "spot_of" = true)
    (k10 : PySem.W.keepIn K (.ref f10) = true)
    (a11 : PySem.W.nsIn K mainGlobals "moved" = some (some (.ref f11)))
    (l11 : K.lookup f11 = some ⟨oc11, od11, .func (PySem.W.fnOf "moved" "moved" (defArgs d_moved.st) (defBody d_moved.st) (defScope d_moved.st) .none kV11 dc11 pm11 an11 cd11 ct11), sl11⟩)
    (c11 : PySem.W.codeIn K cd11 "moved" = true)
    (k11 : PySem.W.keepIn K (.ref f11) = true)
    (a12 : PySem.W.nsIn K mainGlobals "line_after" = some (some (.ref f12)))
    (l12 : K.lookup f12 = some ⟨oc12, od12, .func (PySem.W.fnOf "line_after" "line_after" (defArgs d_line_after.st) (defBody d_line_after.st) (defScope d_line_after.st) .none kV12 dc12 pm12 an12 cd12 ct12), sl12⟩)
    (c12 : PySem.W.codeIn K cd12 "line_after" = true)
    (k12 : PySem.W.keepIn K (.ref f12) = true)
    (a13 : PySem.W.nsIn K mainGlobals "same_dances" = some (some (.ref f13)))
    (l13 : K.lookup f13 = some ⟨oc13, od13, .func (PySem.W.fnOf "same_dances" "same_dances" (defArgs d_same_dances.st) (defBody d_same_dances.st) (defScope d_same_dances.st) .none kV13 dc13 pm13 an13 cd13 ct13), sl13⟩)
    (c13 : PySem.W.codeIn K cd13 "same_dances" = true)
    (k13 : PySem.W.keepIn K (.ref f13) = true)
    (a14 : PySem.W.nsIn K mainGlobals "law" = some (some (.ref f14)))
    (l14 : K.lookup f14 = some ⟨oc14, od14, .func (PySem.W.fnOf "law" "law" (defArgs d_law.st) (defBody d_law.st) (defScope d_law.st) .none kV14 dc14 pm14 an14 cd14 ct14), sl14⟩)
    (c14 : PySem.W.codeIn K cd14 "law" = true)
    (k14 : PySem.W.keepIn K (.ref f14) = true)
    (n0 : PySem.W.nsIn K mainGlobals "FEWEST" = some (some (.int 2 t0)))
    (n1 : PySem.W.nsIn K mainGlobals "LARGEST" = some (some (.int 99 t1)))
    (n3 : PySem.W.nsIn K mainGlobals "MOST" = some (some (.int 24 t3)))
    (z0 : PySem.W.nsIn K mainGlobals "len" = some none)
    (z1 : PySem.W.nsIn K mainGlobals "sum" = some none)
    (z2 : PySem.W.nsIn K mainGlobals "all" = some none)
    (z3 : PySem.W.nsIn K mainGlobals "max" = some none)
    (z4 : PySem.W.nsIn K mainGlobals "min" = some none)
    (z5 : PySem.W.nsIn K mainGlobals "sorted" = some none)
    (z6 : PySem.W.nsIn K mainGlobals "tuple" = some none)
    (z7 : PySem.W.nsIn K mainGlobals "list" = some none)
    (z8 : PySem.W.nsIn K mainGlobals "int" = some none)
    (z9 : PySem.W.nsIn K mainGlobals "isinstance" = some none)
    (z10 : PySem.W.nsIn K mainGlobals "set" = some none)
    (z11 : PySem.W.nsIn K mainGlobals "range" = some none)
    (z12 : PySem.W.nsIn K mainGlobals "enumerate" = some none)
    (z13 : PySem.W.nsIn K mainGlobals "zip" = some none)
    (z14 : PySem.W.nsIn K mainGlobals "bool" = some none)
    (z15 : PySem.W.nsIn K mainGlobals "str" = some none)
    (z16 : PySem.W.nsIn K mainGlobals "dict" = some none)
    (ge0 : PySem.W.nsIn K mainGlobals "InvalidLine" = some (some (.ref E0)))
    (x0 : PySem.W.excIn K E0 [.type "ValueError", .type "Exception", .type "BaseException", .type "object"] "ValueError.__new__" = true)
    (ke0 : PySem.W.keepIn K (.ref E0) = true)
    (b0 : PySem.W.subIn K (.ref E0) (.type "BaseException") = some true)
    (y0 : PySem.W.typeIn K (.ref E0) = some (.type "type"))
    (ge1 : PySem.W.nsIn K mainGlobals "InvalidNumber" = some (some (.ref E1)))
    (x1 : PySem.W.excIn K E1 [.type "ValueError", .type "Exception", .type "BaseException", .type "object"] "ValueError.__new__" = true)
    (ke1 : PySem.W.keepIn K (.ref E1) = true)
    (b1 : PySem.W.subIn K (.ref E1) (.type "BaseException") = some true)
    (y1 : PySem.W.typeIn K (.ref E1) = some (.type "type"))
    : ∃ fd : FuncData, (∀ (s : Shared) (v : Value), BindsTo s fd ⟨[v], []⟩ [("script", v)]) ∧ ∀ base : Heap, K.In base → base.Ns mainGlobals mg → FnOk P w K mg base (L2.CX P w) 15 fa fd ["script"] (spF K ⟨mg, P, w⟩ fi_law) := by
  have e := hfa.symm.trans (PySem.W.mg_of X G a14)
  cases e
  have T : Txt K mg ks0 es0 := by
    refine ⟨fun x d hx => ?_, fun x hx => ?_, fun x hx => ?_⟩
    · unfold ks0 at hx
      rw [List.lookup_cons] at hx
      split at hx
      · rename_i e
        have e := eq_of_beq e
        subst e
        cases hx
        exact mg_ks X G n0
      rw [List.lookup_cons] at hx
      split at hx
      · rename_i e
        have e := eq_of_beq e
        subst e
        cases hx
        exact mg_ks X G n1
      rw [List.lookup_cons] at hx
      split at hx
      · rename_i e
        have e := eq_of_beq e
        subst e
        cases hx
        exact loose_int L (by simp)
      rw [List.lookup_cons] at hx
      split at hx
      · rename_i e
        have e := eq_of_beq e
        subst e
        cases hx
        exact mg_ks X G n3
      cases hx
    · unfold bis at hx
      simp only [List.mem_cons, List.not_mem_nil, or_false] at hx
      rcases hx with rfl | rfl | rfl | rfl | rfl | rfl | rfl | rfl | rfl | rfl | rfl | rfl | rfl | rfl | rfl | rfl | rfl
      · exact PySem.W.mg_none_of X G z0
      · exact PySem.W.mg_none_of X G z1
      · exact PySem.W.mg_none_of X G z2
      · exact PySem.W.mg_none_of X G z3
      · exact PySem.W.mg_none_of X G z4
      · exact PySem.W.mg_none_of X G z5
      · exact PySem.W.mg_none_of X G z6
      · exact PySem.W.mg_none_of X G z7
      · exact PySem.W.mg_none_of X G z8
      · exact PySem.W.mg_none_of X G z9
      · exact PySem.W.mg_none_of X G z10
      · exact PySem.W.mg_none_of X G z11
      · exact PySem.W.mg_none_of X G z12
      · exact PySem.W.mg_none_of X G z13
      · exact PySem.W.mg_none_of X G z14
      · exact PySem.W.mg_none_of X G z15
      · exact PySem.W.mg_none_of X G z16
    · unfold es0 at hx
      simp only [List.mem_cons, List.not_mem_nil, or_false] at hx
      rcases hx with rfl | rfl
      · exact ⟨E0, _, _, _, _, PySem.F.excBase_ValueError, x0, PySem.W.mg_of X G ge0, ke0, b0, y0⟩
      · exact ⟨E1, _, _, _, _, PySem.F.excBase_ValueError, x1, PySem.W.mg_of X G ge1, ke1, b1, y1⟩
  have D0 : DefAt K mg d__law_bag := def_mk (d := d__law_bag) X G a0 l0 c0 k0 fun _ _ _ _ _ _ us hl => match us, hl with | [_, _], _ => rfl
  have D1 : DefAt K mg d__law_take := def_mk (d := d__law_take) X G a1 l1 c1 k1 fun _ _ _ _ _ _ us hl => match us, hl with | [_, _], _ => rfl
  have D2 : DefAt K mg d__law_line := def_mk (d := d__law_line) X G a2 l2 c2 k2 fun _ _ _ _ _ _ us hl => match us, hl with | [_, _], _ => rfl
  have D3 : DefAt K mg d__law_danced := def_mk (d := d__law_danced) X G a3 l3 c3 k3 fun _ _ _ _ _ _ us hl => match us, hl with | [_, _], _ => rfl
  have D4 : DefAt K mg d__law_met := def_mk (d := d__law_met) X G a4 l4 c4 k4 fun _ _ _ _ _ _ us hl => match us, hl with | [_, _, _], _ => rfl
  have D5 : DefAt K mg d_is_integer := def_mk (d := d_is_integer) X G a5 l5 c5 k5 fun _ _ _ _ _ _ us hl => match us, hl with | [_, _, _], _ => rfl
  have D6 : DefAt K mg d_is_line := def_mk (d := d_is_line) X G a6 l6 c6 k6 fun _ _ _ _ _ _ us hl => match us, hl with | [_], _ => rfl
  have D7 : DefAt K mg d_require_line := def_mk (d := d_require_line) X G a7 l7 c7 k7 fun _ _ _ _ _ _ us hl => match us, hl with | [_], _ => rfl
  have D8 : DefAt K mg d_require_number := def_mk (d := d_require_number) X G a8 l8 c8 k8 fun _ _ _ _ _ _ us hl => match us, hl with | [_, _, _], _ => rfl
  have D9 : DefAt K mg d_place_of := def_mk (d := d_place_of) X G a9 l9 c9 k9 fun _ _ _ _ _ _ us hl => match us, hl with | [_, _], _ => rfl
  have D10 : DefAt K mg d_spot_of := def_mk (d := d_spot_of) X G a10 l10 c10 k10 fun _ _ _ _ _ _ us hl => match us, hl with | [_, _, _], _ => rfl
  have D11 : DefAt K mg d_moved := def_mk (d := d_moved) X G a11 l11 c11 k11 fun _ _ _ _ _ _ us hl => match us, hl with | [_, _, _], _ => rfl
  have D12 : DefAt K mg d_line_after := def_mk (d := d_line_after) X G a12 l12 c12 k12 fun _ _ _ _ _ _ us hl => match us, hl with | [_, _], _ => rfl
  have D13 : DefAt K mg d_same_dances := def_mk (d := d_same_dances) X G a13 l13 c13 k13 fun _ _ _ _ _ _ us hl => match us, hl with | [_, _], _ => rfl
  have F : Fun K d_law.x d_law.x d_law.st fa _ := fun_mk (st := d_law.st) l14 c14 k14
  refine ⟨PySem.W.fnOf "law" "law" (defArgs d_law.st) (defBody d_law.st) (defScope d_law.st) .none kV14 dc14 pm14 an14 cd14 ct14, fun s v => .of_eq rfl, fun base _ _ => ?_⟩
  have A0 : AllOk P w K mg base fuel0 r__law_bag := trivial
  have A1 : AllOk P w K mg base fuel0 r__law_take := def_ok A0 T D0 s__law_bag k__law_bag
  have A2 : AllOk P w K mg base fuel0 r__law_line := def_ok A1 T D1 s__law_take k__law_take
  have A3 : AllOk P w K mg base fuel0 r__law_danced := def_ok A2 T D2 s__law_line k__law_line
  have A4 : AllOk P w K mg base fuel0 r__law_met := def_ok A3 T D3 s__law_danced k__law_danced
  have A5 : AllOk P w K mg base fuel0 r_is_integer := def_ok A4 T D4 s__law_met k__law_met
  have A6 : AllOk P w K mg base fuel0 r_is_line := def_ok A5 T D5 s_is_integer k_is_integer
  have A7 : AllOk P w K mg base fuel0 r_require_line := def_ok A6 T D6 s_is_line k_is_line
  have A8 : AllOk P w K mg base fuel0 r_require_number := def_ok A7 T D7 s_require_line k_require_line
  have A9 : AllOk P w K mg base fuel0 r_place_of := def_ok A8 T D8 s_require_number k_require_number
  have A10 : AllOk P w K mg base fuel0 r_spot_of := def_ok A9 T D9 s_place_of k_place_of
  have A11 : AllOk P w K mg base fuel0 r_moved := def_ok A10 T D10 s_spot_of k_spot_of
  have A12 : AllOk P w K mg base fuel0 r_line_after := def_ok A11 T D11 s_moved k_moved
  have A13 : AllOk P w K mg base fuel0 r_same_dances := def_ok A12 T D12 s_line_after k_line_after
  have A14 : AllOk P w K mg base fuel0 r_law := def_ok A13 T D13 s_same_dances k_same_dances
  exact def_fn A14 T F s_law k_law
end Iv
set_option maxRecDepth 100000
set_option maxHeartbeats 4000000
/-! M0: codes that the laws share, as they stand. -/
namespace Iv
open PySem PySem.Spec PyProof.Rows L2
def m_is_integer : S := (.seq (.ret (.andv (.bi .isint (.cons (.v 0) .nil)) (.andv (.notv (.bi .isbool (.cons (.v 0) .nil))) (.ch .LtE .LtE (.v 1) (.v 0) (.v 2))))) .nil)
abbrev f_is_integer (cx : Ctx) : FI := ⟨3, false, run cx 3 false m_is_integer⟩
def m_law_take : S := (.seq (.ife (.tr (.cmp .Gt (.ix (.v 0) (.k (.int 0))) (.k (.int 0)))) (.seq (.asg 2 (.op .Mod (.ix (.v 0) (.k (.int 0))) (.v 1))) (.seq (.set 0 (.k (.int 0)) (.op .FloorDiv (.ix (.v 0) (.k (.int 0))) (.v 1))) (.seq (.ret (.v 2)) .nil))) .nil) (.seq (.set 0 (.k (.int 1)) (.op .Mod (.op .Mult (.ix (.v 0) (.k (.int 1))) (.k (.int 48271))) (.k (.int 2147483647)))) (.seq (.ret (.op .Mod (.op .FloorDiv (.op .Mod (.op .Mult (.op .FloorDiv (.ix (.v 0) (.k (.int 1))) (.k (.int 13))) (.op .Add (.op .Mod (.ix (.v 0) (.k (.int 1))) (.k (.int 32749))) (.k (.int 17)))) (.k (.int 2147483629))) (.k (.int 32))) (.v 1))) .nil)))
abbrev f_law_take (cx : Ctx) : FI := ⟨2, true, run cx 3 true m_law_take⟩
def m_law_bag : S := (.seq (.asg 2 (.k (.int 0))) (.seq (.ife (.tr (.cmp .Lt (.v 1) (.bi .len (.cons (.v 0) .nil)))) (.seq (.asg 2 (.op .Mod (.ix (.v 0) (.v 1)) (.op .Pow (.k (.int 10)) (.k (.int 60))))) .nil) .nil) (.seq (.asg 3 (.op .Add (.k (.int 1)) (.op .Mod (.op .Add (.op .Add (.op .Add (.op .Mult (.op .Mod (.v 2) (.k (.int 2147483629))) (.k (.int 16807))) (.op .Mult (.op .Mult (.k (.int 40009)) (.v 1)) (.v 1))) (.op .Mult (.k (.int 7919)) (.v 1))) (.k (.int 1009))) (.k (.int 2147483645))))) (.seq (.ife (.tr (.cmp .Lt (.v 2) (.op .Pow (.k (.int 10)) (.k (.int 18))))) (.seq (.ret (.lst (.cons (.k (.int 0)) (.cons (.v 3) .nil)))) .nil) .nil) (.seq (.ret (.lst (.cons (.v 2) (.cons (.v 3) .nil)))) .nil)))))
abbrev f_law_bag (cx : Ctx) : FI := ⟨2, false, run cx 4 false m_law_bag⟩
def m_place_of : S := (.seq (.ret (.ife (.tr (.cmp .Lt (.v 1) (.v 0))) (.v 1) (.op .Sub (.op .Sub (.op .Mult (.k (.int 2)) (.v 0)) (.k (.int 1))) (.v 1)))) .nil)
abbrev f_place_of (cx : Ctx) : FI := ⟨2, false, run cx 2 false m_place_of⟩
def m_spot_of : S := (.seq (.ret (.ife (.tr (.cmp .Eq (.op .Mod (.op .Sub (.v 1) (.v 2)) (.k (.int 2))) (.k (.int 0)))) (.v 1) (.op .Sub (.op .Sub (.op .Mult (.k (.int 2)) (.v 0)) (.k (.int 1))) (.v 1)))) .nil)
abbrev f_spot_of (cx : Ctx) : FI := ⟨3, false, run cx 3 false m_spot_of⟩
end Iv
set_option maxRecDepth 100000
set_option maxHeartbeats 4000000
namespace Iv
open PySem PySem.Spec PyProof.Rows L2
theorem get0 {s : Slot} {ρ : Env} : get (s :: ρ) 0 = s := rfl
theorem getS {s : Slot} {ρ : Env} {i : Nat} : get (s :: ρ) (i + 1) = get ρ i := get_cons
theorem get1 {s t : Slot} {ρ : Env} : get (s :: t :: ρ) 1 = t := rfl
theorem get2 {s t u : Slot} {ρ : Env} : get (s :: t :: u :: ρ) 2 = u := rfl
theorem get3 {s t u v : Slot} {ρ : Env} : get (s :: t :: u :: v :: ρ) 3 = v := rfl
theorem get4 {s t u v w : Slot} {ρ : Env} : get (s :: t :: u :: v :: w :: ρ) 4 = w := rfl
theorem get5 {s t u v w x : Slot} {ρ : Env} : get (s :: t :: u :: v :: w :: x :: ρ) 5 = x := rfl
theorem get6 {s t u v w x y : Slot} {ρ : Env} : get (s :: t :: u :: v :: w :: x :: y :: ρ) 6 = y := rfl
theorem get7 {s t u v w x y z : Slot} {ρ : Env} : get (s :: t :: u :: v :: w :: x :: y :: z :: ρ) 7 = z := rfl
theorem get8 {s t u v w x y z a : Slot} {ρ : Env} : get (s :: t :: u :: v :: w :: x :: y :: z :: a :: ρ) 8 = a := rfl
theorem get9 {s t u v w x y z a b : Slot} {ρ : Env} : get (s :: t :: u :: v :: w :: x :: y :: z :: a :: b :: ρ) 9 = b := rfl
theorem run_rt {cx : Ctx} {n : Nat} {body : S} {ds : List D} {d : D} {fr : Bool} {ρ0 : Env} (e : entry n false ds = ρ0) (h : ∃ ρ, xec cx body ρ0 = .rt d fr ρ) : run cx n false body ds = .ok d fr := by
  obtain ⟨ρ, h⟩ := h
  unfold run
  rw [e, h]
theorem run_nx {cx : Ctx} {n : Nat} {body : S} {ds : List D} {ρ0 : Env} (e : entry n false ds = ρ0) (h : ∃ ρ, xec cx body ρ0 = .nx ρ) : run cx n false body ds = .ok .none false := by
  obtain ⟨ρ, h⟩ := h
  unfold run
  rw [e, h]
theorem runIo_rt {cx : Ctx} {n : Nat} {body : S} {ds : List D} {d b : D} {fr : Bool} {ρ0 : Env} (e : entry n true ds = ρ0) (h : ∃ ρ, xec cx body ρ0 = .rt d fr ρ ∧ get ρ 0 = .ow b) : run cx n true body ds = .io d fr b := by
  obtain ⟨ρ, h, g⟩ := h
  unfold run
  rw [e, h]
  simp only [g]
theorem sem_is_integer {cx : Ctx} (i lo hi : Int) : (f_is_integer cx).sem [.int i, .int lo, .int hi] = .ok (.bool (decide (lo ≤ i) && decide (i ≤ hi))) false := by
  show run cx 3 false m_is_integer _ = _
  refine run_rt (ρ0 := [.fz (.int i), .fz (.int lo), .fz (.int hi)]) rfl ?_
  cases h1 : decide (lo ≤ i) <;> cases h2 : decide (i ≤ hi) <;>
    simp [m_is_integer, xec, ev, get0, get1, get2, listOf, reads, read, builtin, un1, fIs, tyD, cmpop, boolOf, truth, retF, h1, h2]
def bagD (a s : Int) : D := .list [.int a, .int s]
def BagOk (a s : Int) : Prop := 0 ≤ a ∧ a < 10 ^ 60 ∧ 0 ≤ s ∧ s ≤ 2147483647
theorem atI2 {x y : D} : L2.atI [x, y] 1 = some y := rfl
theorem abs_lt {x : Int} (h0 : 0 ≤ x) (h1 : x < 2 ^ 62) : x.natAbs < 2 ^ 1000 := by
  have h5 : x.natAbs < 2 ^ 62 := by omega
  exact Nat.lt_trans h5 (by decide +kernel)
theorem sem_take {cx : Ctx} (a s c : Int) (h : BagOk a s) (hc : 0 < c) (hc2 : c < 2 ^ 40) : ∃ r a' s', (f_law_take cx).sem [bagD a s, .int c] = .io (.int r) false (bagD a' s') ∧ 0 ≤ r ∧ r < c ∧ BagOk a' s' := by
  have ix0 : L2.atI [PyData.int a, .int s] 0 = some (.int a) := rfl
  have ix1 : L2.atI [PyData.int a, .int s] 1 = some (.int s) := rfl
  obtain ⟨h1, h2, h3, h4⟩ := h
  have n1 : c.natAbs < 2 ^ 1000 := by
    have h5 : c.natAbs < 2 ^ 40 := by omega
    exact Nat.lt_trans h5 (by decide +kernel)
  by_cases ha : 0 < a
  · refine ⟨a % c, a / c, s, ?_, Int.emod_nonneg _ (by omega), Int.emod_lt_of_pos _ hc, ⟨Int.ediv_nonneg h1 (by omega), ?_, h3, h4⟩⟩
    · show run cx 3 true m_law_take _ = _
      refine runIo_rt (ρ0 := [.ow (bagD a s), .fz (.int c), .no]) rfl ?_
      simp [m_law_take, xec, ev, get0, get1, get2, listOf, reads, read, cmpop, boolOf, truth, retF, bagD, index, ix0, ix1, ha, binop, hc, n1, store, subGo, owOf, setItem, esc]
    · exact Int.lt_of_le_of_lt (Int.ediv_le_self _ h1) h2
  · generalize hs' : s * 48271 % 2147483647 = s'
    have b1 : 0 ≤ s' := by rw [← hs']; exact Int.emod_nonneg _ (by decide)
    have b2 : s' < 2147483647 := by rw [← hs']; exact Int.emod_lt_of_pos _ (by decide)
    have c1 : 0 ≤ s' / 13 := Int.ediv_nonneg b1 (by decide)
    have c2 : s' / 13 ≤ s' := Int.ediv_le_self _ b1
    have c3 : 0 ≤ s' % 32749 := Int.emod_nonneg _ (by decide)
    have c4 : s' % 32749 < 32749 := Int.emod_lt_of_pos _ (by decide)
    have n2 := abs_lt (x := s) h3 (by omega)
    have n3 := abs_lt (x := s' / 13) c1 (by omega)
    have n4 := abs_lt (x := s' % 32749 + 17) (by omega) (by omega)
    have m1 : (48271 : Nat) < 2 ^ 1000 := by decide +kernel
    have m2 : (13 : Nat) < 2 ^ 1000 := by decide +kernel
    have m3 : (32 : Nat) < 2 ^ 1000 := by decide +kernel
    refine ⟨s' / 13 * (s' % 32749 + 17) % 2147483629 / 32 % c, a, s', ?_, Int.emod_nonneg _ (by omega), Int.emod_lt_of_pos _ hc, ⟨h1, h2, b1, by omega⟩⟩
    show run cx 3 true m_law_take _ = _
    refine runIo_rt (ρ0 := [.ow (bagD a s), .fz (.int c), .no]) rfl ?_
    simp [m_law_take, xec, ev, get0, get1, get2, listOf, reads, read, cmpop, boolOf, truth, retF, bagD, index, ix0, ix1, ha, binop, hc, n1, store, subGo, owOf, setItem, esc, n2, m1, hs', atI2, n3, n4, m2, m3]
end Iv
set_option maxRecDepth 100000
set_option maxHeartbeats 4000000
namespace Iv
open PySem PySem.Spec PyProof.Rows L2
theorem map_erase {α β : Type} (f : α → β) : ∀ (l : List α) (i : Nat), (l.map f).eraseIdx i = (l.eraseIdx i).map f
  | [], _ => rfl
  | _ :: _, 0 => rfl
  | x :: l, i + 1 => by simp [map_erase f l i]
theorem erase_perm {α : Type} : ∀ (l : List α) (i : Nat) (x : α), l[i]? = some x → List.Perm (x :: l.eraseIdx i) l
  | [], _, _, h => by simp at h
  | y :: l, 0, x, h => by
    simp at h
    subst h
    exact .refl _
  | y :: l, i + 1, x, h => by
    simp at h
    exact (List.Perm.swap y x _).trans ((erase_perm l i x h).cons y)
theorem erase_len {α : Type} : ∀ (l : List α) (i : Nat), i < l.length → (l.eraseIdx i).length + 1 = l.length := by
  intro l i h
  rw [List.length_eraseIdx, if_pos h]
  omega
def intsT (ns : List Int) : D := .tuple (ns.map .int)
def intsL (ns : List Int) : D := .list (ns.map .int)
/-- a line: 2 to 24 different numbers, 0 to 99 -/
structure LineOk (ns : List Int) : Prop where
  lo : 2 ≤ ns.length
  hi : ns.length ≤ 24
  rg : ∀ x ∈ ns, 0 ≤ x ∧ x ≤ 99
  nd : ns.Nodup
/-- the body of the loop: a number drawn from the left ones -/
abbrev lineBody (t : Nat) : S := .seq (.app 3 (.popi 2 (.call t (.cons (.v 0) (.cons (.bi .len (.cons (.v 2) .nil)) .nil))))) .nil
def TakeOk (ft : FI) : Prop := ft.io = true ∧ ∀ a s c : Int, BagOk a s → 0 < c → c < 2 ^ 40 → ∃ r a' s', ft.sem [bagD a s, .int c] = .io (.int r) false (bagD a' s') ∧ 0 ≤ r ∧ r < c ∧ BagOk a' s'
theorem ev_popi {cx : Ctx} {i : Nat} {e : C} {ρ ρ1 : Env} {y : Rv} {k : Int} {xs xs0 : List D} {z : D} (h0 : lstOf (get ρ i) = some xs0) (h1 : ev cx e ρ = .ok (y, ρ1)) (h2 : read ρ1 y = some (.int k)) (h3 : lstOf (get ρ1 i) = some xs) (h4 : 0 ≤ k ∧ k < 2 ^ 62) (h5 : xs[k.toNat]? = some z) :
    ev cx (.popi i e) ρ = .ok (.d z, ρ1.set i (.ow (.list (xs.eraseIdx k.toNat)))) := by
  rw [ev, h0, got_some, h1, R.bd_ok, h2, got_some]
  show (got (lstOf (get ρ1 i)) fun xs => if 0 ≤ k ∧ k < 2 ^ 62 then got xs[k.toNat]? fun z => R.ok (Rv.d z, ρ1.set i (.ow (.list (xs.eraseIdx k.toNat)))) else .no) = _
  rw [h3, got_some, if_pos h4, h5, got_some]
theorem xec_app {cx : Ctx} {i : Nat} {e : C} {ρ ρ1 : Env} {x : Rv} {p : D × Env} {xs xs0 : List D} (h0 : lstOf (get ρ i) = some xs0) (h1 : ev cx e ρ = .ok (x, ρ1)) (h2 : esc ρ1 x = some p) (h3 : lstOf (get p.2 i) = some xs) (hl : xs.length < big) :
    xec cx (.app i e) ρ = .nx (p.2.set i (.ow (.list (xs ++ [p.1])))) := by
  rw [xec, h0, lifo_some, h1, lift_ok, h2, lifo_some, h3, lifo_some, if_pos hl]
theorem xec_seq {cx : Ctx} {s r : S} {ρ ρ1 : Env} (h : xec cx s ρ = .nx ρ1) : xec cx (.seq s r) ρ = xec cx r ρ1 := by
  rw [xec, h, F.seq_nx]
def rvOf (d : D) : Bool → Rv
  | true => .f d
  | false => .d d
/-- a call of an in-out def -/
theorem ev_callIo {cx : Ctx} {f i : Nat} {fi : FI} {c : C} {ρ ρ1 ρ2 : Env} {rs : List Rv} {ds : List D} {b d b' : D} {fr : Bool} (hf : cx.fs[f]? = some fi) (hio : fi.io = true) (h1 : ev cx c ρ = .ok (.l (.o i :: rs), ρ1)) (h2 : escs ρ1 rs = some (ds, ρ2)) (h3 : get ρ2 i = .ow b) (h4 : fi.sem (b :: ds) = .io d fr b') :
    ev cx (.call f c) ρ = .ok (rvOf d fr, ρ2.set i (.ow b')) := by
  rw [ev, h1, R.bd_ok]
  show callF cx f (.o i :: rs) ρ1 = _
  unfold callF
  rw [hf, got_some]
  simp only [hio]
  show (got (escs ρ1 rs) fun p => got (owOf (get p.2 i)) fun b => gaveIo (fi.sem (b :: p.1)) i p.2) = _
  rw [h2, got_some, h3]
  show gaveIo (fi.sem (b :: ds)) i ρ2 = _
  rw [h4]
  cases fr <;> rfl
/-- a call of another def -/
theorem ev_call {cx : Ctx} {f : Nat} {fi : FI} {c : C} {ρ ρ1 ρ2 : Env} {rs : List Rv} {ds : List D} (hf : cx.fs[f]? = some fi) (hio : fi.io = false) (h1 : ev cx c ρ = .ok (.l rs, ρ1)) (h2 : escs ρ1 rs = some (ds, ρ2)) :
    ev cx (.call f c) ρ = gave (fi.sem ds) ρ2 := by
  rw [ev, h1, R.bd_ok]
  show callF cx f rs ρ1 = _
  unfold callF
  rw [hf, got_some]
  simp only [hio]
  rw [h2, got_some]
theorem line_step {cx : Ctx} {ft : FI} {t : Nat} (hf : cx.fs[t]? = some ft) (hio : ft.io = true) {m x4 : D} {left found : List Int} {a s a' s' y : Int} {k : Nat} (h1 : ft.sem [bagD a s, .int left.length] = .io (.int k) false (bagD a' s')) (hy : left[k]? = some y) (hk : (k : Int) < 2 ^ 62) (hle : found.length < big) :
    xec cx (lineBody t) [.ow (bagD a s), .fz m, .ow (intsL left), .ow (intsL found), .fz x4] = .nx [.ow (bagD a' s'), .fz m, .ow (intsL (left.eraseIdx k)), .ow (intsL (found ++ [y])), .fz x4] := by
  have e1 : ev cx (.cons (.v 0) (.cons (.bi .len (.cons (.v 2) .nil)) .nil)) [.ow (bagD a s), .fz m, .ow (intsL left), .ow (intsL found), .fz x4] = .ok (.l [.o 0, .d (.int (left.map PyData.int).length)], [.ow (bagD a s), .fz m, .ow (intsL left), .ow (intsL found), .fz x4]) := rfl
  rw [List.length_map] at e1
  have e2 := ev_callIo hf hio e1 rfl rfl h1
  have e3 := ev_popi (i := 2) (xs0 := left.map .int) rfl e2 rfl rfl ⟨by omega, hk⟩ (z := .int y) (by rw [Int.toNat_natCast, List.getElem?_map, hy]; rfl)
  have e4 := xec_app (i := 3) (xs0 := found.map .int) rfl e3 rfl (xs := found.map .int) rfl (by rw [List.length_map]; exact hle)
  rw [xec_seq e4]
  rw [Int.toNat_natCast, map_erase]
  have e5 : (found ++ [y]).map PyData.int = found.map .int ++ [.int y] := List.map_append
  unfold intsL
  rw [e5]
  rfl
theorem forGo_cons {body : Env → F} {tg : Tg} {x : D} {xs : List D} {ρ ρ1 ρ2 : Env} (hb : bindT ρ tg x = some ρ1) (h : body ρ1 = .nx ρ2) : forGo body tg (x :: xs) ρ = forGo body tg xs ρ2 := by
  rw [forGo, hb, lifo_some, h]
theorem line_loop {cx : Ctx} {ft : FI} {t : Nat} (hf : cx.fs[t]? = some ft) (T : TakeOk ft) {m : D} (items : List D) : ∀ (left found : List Int) (a s : Int) (x4 : Slot), BagOk a s → items.length < left.length → left.length ≤ 1000 → found.length + items.length ≤ 1000 → ∃ left' found' a' s' x4',
      forGo (xec cx (lineBody t)) (.n 4) items [.ow (bagD a s), .fz m, .ow (intsL left), .ow (intsL found), x4] =
        .nx [.ow (bagD a' s'), .fz m, .ow (intsL left'), .ow (intsL found'), x4'] ∧ BagOk a' s' ∧ found'.length = found.length + items.length ∧ List.Perm (found' ++ left') (found ++ left) := by
  induction items with
  | nil => exact fun left found a s x4 hb _ _ _ => ⟨left, found, a, s, x4, rfl, hb, rfl, .refl _⟩
  | cons d items ih =>
    intro left found a s x4 hb hl hl2 hl3
    rw [List.length_cons] at hl hl3
    obtain ⟨r, a', s', h1, h2, h3, h4⟩ := T.2 a s left.length hb (by omega) (by omega)
    obtain ⟨k, rfl⟩ : ∃ k : Nat, r = k := ⟨r.toNat, by omega⟩
    have hk : k < left.length := by omega
    obtain ⟨y, hy⟩ : ∃ y, left[k]? = some y := ⟨left[k], by simp [hk]⟩
    have el := erase_len left k hk
    have fl : (found ++ [y]).length = found.length + 1 := by simp
    obtain ⟨left', found', a2, s2, x4', q1, q2, q3, q4⟩ := ih (left.eraseIdx k) (found ++ [y]) a' s' (.fz d) h4 (by omega) (by omega) (by omega)
    have hb1 : (big : Nat) = 10000000 := rfl
    refine ⟨left', found', a2, s2, x4', ?_, q2, by rw [q3, fl, List.length_cons]; omega, ?_⟩
    · exact (forGo_cons rfl (line_step hf T.1 h1 hy (by omega) (by omega))).trans q1
    · refine q4.trans ?_
      rw [List.append_assoc]
      exact (List.Perm.append_left found (erase_perm left k y hy))
end Iv
set_option maxRecDepth 100000
set_option maxHeartbeats 4000000
namespace Iv
open PySem PySem.Spec PyProof.Rows L2
theorem xec_for {cx : Ctx} {tg : Tg} {w : Wk} {it : C} {body : S} {ρ ρ1 ρ2 : Env} {rs : List Rv} {ds ds' items : List D} (h1 : ev cx it ρ = .ok (.l rs, ρ1)) (h2 : reads ρ1 rs = some ds) (h3 : escs ρ1 rs = some (ds', ρ2)) (h4 : walked w ds = some items) :
    xec cx (.for tg w it body) ρ = forGo (xec cx body) tg items ρ2 := by
  rw [xec, h1, lift_ok]
  show (lifo (reads ρ1 rs) fun ds => lifo (escs ρ1 rs) fun p => lifo (walked w ds) fun items => forGo (xec cx body) tg items p.2) = _
  rw [h2, lifo_some, h3, lifo_some, h4, lifo_some]
theorem smallI_of {i : Int} (h1 : -(2 ^ 62) < i) (h2 : i < 2 ^ 62) : smallI i = true := by
  unfold smallI
  rw [decide_eq_true h1, decide_eq_true h2]
  rfl
theorem walked1 {n : Int} (h1 : -(2 ^ 62) < n) (h2 : n < 2 ^ 62) : walked .r1 [.int n] = some (rangeD 0 n.toNat) := by
  show (if smallI n = true then some (rangeD 0 n.toNat) else none) = _
  rw [if_pos (smallI_of h1 h2)]
theorem walked3 {a b c : Int} (h1 : -(2 ^ 62) < a) (h2 : a < 2 ^ 62) (h3 : -(2 ^ 62) < b) (h4 : b < 2 ^ 62) (h5 : 0 < c ∧ c < 1000) : walked .r3 [.int a, .int b, .int c] = some (rangeC a c (stepN a b c)) := by
  show (if smallI a = true ∧ smallI b = true ∧ 0 < c ∧ c < 1000 then some (rangeC a c (stepN a b c)) else none) = _
  rw [if_pos ⟨smallI_of h1 h2, smallI_of h3 h4, h5⟩]
def left0 : List Int := (List.range 100).map fun (i : Nat) => (i : Int)
theorem left0_nd : left0.Nodup := by decide +kernel
theorem left0_rg : ∀ x ∈ left0, 0 ≤ x ∧ x ≤ 99 := by decide +kernel
def lineC (t : Nat) : S := .seq (.par [2, 3] (.cons (.bi .lrange (.cons (.k (.int 100)) .nil)) (.cons (.lst .nil) .nil))) (.seq (.for (.n 4) .r1 (.cons (.op .Add (.k (.int 2)) (.call t (.cons (.v 0) (.cons (.op .Sub (.v 1) (.k (.int 1))) .nil)))) .nil) (lineBody t)) (.seq (.ret (.bi .tuple (.cons (.v 3) .nil))) .nil))
def LineOkF (fl : FI) : Prop := fl.io = true ∧ ∀ a s m : Int, BagOk a s → 3 ≤ m → m ≤ 24 → ∃ ns a' s', fl.sem [bagD a s, .int m] = .io (intsT ns) false (bagD a' s') ∧ BagOk a' s' ∧ LineOk ns ∧ (ns.length : Int) ≤ m
theorem sem_line {cx : Ctx} {ft : FI} {t : Nat} (hf : cx.fs[t]? = some ft) (T : TakeOk ft) (a s m : Int) (hb : BagOk a s) (h3 : 3 ≤ m) (h24 : m ≤ 24) :
    ∃ ns a' s', run cx 5 true (lineC t) [bagD a s, .int m] = .io (intsT ns) false (bagD a' s') ∧ BagOk a' s' ∧ LineOk ns ∧ (ns.length : Int) ≤ m := by
  obtain ⟨r, a1, s1, h1, r0, r1, hb1⟩ := T.2 a s (m - 1) hb (by omega) (by omega)
  have e0 : xec cx (.par [2, 3] (.cons (.bi .lrange (.cons (.k (.int 100)) .nil)) (.cons (.lst .nil) .nil))) [.ow (bagD a s), .fz (.int m), .no, .no, .no] = .nx [.ow (bagD a s), .fz (.int m), .ow (intsL left0), .ow (intsL []), .no] := rfl
  have e1 : ev cx (.cons (.v 0) (.cons (.op .Sub (.v 1) (.k (.int 1))) .nil)) [.ow (bagD a s), .fz (.int m), .ow (intsL left0), .ow (intsL []), .no] = .ok (.l [.o 0, .d (.int (m - 1))], [.ow (bagD a s), .fz (.int m), .ow (intsL left0), .ow (intsL []), .no]) := rfl
  have e2 := ev_callIo hf T.1 e1 rfl rfl h1
  have e3 : ev cx (.cons (.op .Add (.k (.int 2)) (.call t (.cons (.v 0) (.cons (.op .Sub (.v 1) (.k (.int 1))) .nil)))) .nil) [.ow (bagD a s), .fz (.int m), .ow (intsL left0), .ow (intsL []), .no] = .ok (.l [.d (.int (2 + r))], [.ow (bagD a1 s1), .fz (.int m), .ow (intsL left0), .ow (intsL []), .no]) := by
    rw [ev, ev, ev, R.bd_ok, e2]
    rfl
  have e4 := xec_for (tg := .n 4) (w := .r1) (body := lineBody t) e3 rfl rfl (walked1 (n := 2 + r) (by omega) (by omega))
  have ll : left0.length = 100 := by decide +kernel
  obtain ⟨left', found', a2, s2, x4, q1, q2, q3, q4⟩ := line_loop hf T (m := .int m) (rangeD 0 (2 + r).toNat) left0 [] a1 s1 .no hb1 (by rw [rangeD_length, ll]; omega) (by omega) (by rw [rangeD_length]; simp; omega)
  have nd : found'.Nodup := ((q4.nodup_iff).mpr left0_nd).sublist (List.sublist_append_left _ _)
  have rg : ∀ x ∈ found', 0 ≤ x ∧ x ≤ 99 := fun x hx => left0_rg x (q4.mem_iff.mp (List.mem_append_left _ hx))
  have fl : found'.length = (2 + r).toNat := by rw [q3, rangeD_length]; simp
  refine ⟨found', a2, s2, ?_, q2, ⟨by omega, by omega, rg, nd⟩, by omega⟩
  refine runIo_rt (ρ0 := [.ow (bagD a s), .fz (.int m), .no, .no, .no]) rfl ⟨[.ow (bagD a2 s2), .fz (.int m), .ow (intsL left'), .ow (intsL found'), x4], ?_, rfl⟩
  unfold lineC
  rw [xec_seq e0, xec_seq (e4.trans q1)]
  rfl
end Iv
set_option maxRecDepth 100000
set_option maxHeartbeats 4000000
set_option exponentiation.threshold 2000
namespace Iv
open PySem PySem.Spec PyProof.Rows L2
theorem ev_op {cx : Ctx} {o : Operator} {a b : C} {ρ ρ1 ρ2 : Env} {x y z : Rv} {dx dy : D} (h1 : ev cx a ρ = .ok (x, ρ1)) (h2 : ev cx b ρ1 = .ok (y, ρ2)) (h3 : read ρ2 x = some dx) (h4 : read ρ2 y = some dy) (h5 : binop o dx dy = some z) : ev cx (.op o a b) ρ = .ok (z, ρ2) := by
  rw [ev, h1, R.bd_ok, h2, R.bd_ok, h3, got_some, h4, got_some, h5, got_some]
theorem b_mul {i j : Int} (h1 : i.natAbs < 2 ^ 1000) (h2 : j.natAbs < 2 ^ 1000) : binop .Mult (.int i) (.int j) = some (.d (.int (i * j))) := by
  show (if _ then _ else none) = _
  rw [if_pos ⟨h1, h2⟩]
theorem b_mod {i j : Int} (h1 : 0 < j) : binop .Mod (.int i) (.int j) = some (.d (.int (i % j))) := by
  show (if _ then _ else none) = _
  rw [if_pos h1]
theorem b_div {i j : Int} (h1 : 0 < j) (h2 : j.natAbs < 2 ^ 1000) : binop .FloorDiv (.int i) (.int j) = some (.d (.int (i / j))) := by
  show (if _ then _ else none) = _
  rw [if_pos ⟨h1, h2⟩]
theorem b_pow {i j : Int} (h1 : 0 ≤ j ∧ j ≤ 1000 ∧ i.natAbs < 2 ^ 64) : binop .Pow (.int i) (.int j) = some (.d (.int (i ^ j.toNat))) := by
  show (if _ then _ else none) = _
  rw [if_pos h1]
theorem xec_if {cx : Ctx} {t : C} {a b : S} {ρ ρ1 : Env} {k : Bool} (h : ev cx t ρ = .ok (.d (.bool k), ρ1)) : xec cx (.ife t a b) ρ = if k = true then xec cx a ρ1 else xec cx b ρ1 := by
  rw [xec, h, lift_ok]
  cases k <;> rfl
theorem xec_asg {cx : Ctx} {i : Nat} {e : C} {ρ ρ1 ρ2 : Env} {x : Rv} (h : ev cx e ρ = .ok (x, ρ1)) (h2 : store i x ρ1 = some ρ2) : xec cx (.asg i e) ρ = .nx ρ2 := by
  rw [xec, h, lift_ok, h2, lifo_some]
theorem p60 : ((10 : Int) ^ (60 : Int).toNat) = 10 ^ 60 := rfl
theorem ev_10_60 {cx : Ctx} {ρ : Env} {n : Int} (h : 0 ≤ n ∧ n ≤ 1000) : ev cx (.op .Pow (.k (.int 10)) (.k (.int n))) ρ = .ok (.d (.int (10 ^ n.toNat)), ρ) :=
  ev_op rfl rfl rfl rfl (b_pow ⟨h.1, h.2, by decide⟩)
theorem natAbs_lt {x : Int} (h0 : 0 ≤ x) (h1 : x < 10 ^ 60) : x.natAbs < 2 ^ 1000 := by
  have h5 : x.natAbs < 10 ^ 60 := by omega
  exact Nat.lt_trans h5 (by decide +kernel)
def BagF (fb : FI) : Prop := fb.io = false ∧ ∀ (ns : List Int) (k : Nat), k ≤ 100 → ∃ a s, fb.sem [scrD ns, .int k] = .ok (bagD a s) true ∧ BagOk a s
abbrev seedC : C := .op .Add (.k (.int 1)) (.op .Mod (.op .Add (.op .Add (.op .Add (.op .Mult (.op .Mod (.v 2) (.k (.int 2147483629))) (.k (.int 16807))) (.op .Mult (.op .Mult (.k (.int 40009)) (.v 1)) (.v 1))) (.op .Mult (.k (.int 7919)) (.v 1))) (.k (.int 1009))) (.k (.int 2147483645)))
theorem ev_seed {cx : Ctx} {s0 s3 : Slot} {c : Int} {k : Nat} (h0 : 0 ≤ c) (hk : k ≤ 100) : ∃ s, ev cx seedC [s0, .fz (.int k), .fz (.int c), s3] = .ok (.d (.int s), [s0, .fz (.int k), .fz (.int c), s3]) ∧ 0 ≤ s ∧ s ≤ 2147483647 := by
  have c1 : 0 ≤ c % 2147483629 := Int.emod_nonneg _ (by decide)
  have c2 : c % 2147483629 < 2147483629 := Int.emod_lt_of_pos _ (by decide)
  refine ⟨1 + (c % 2147483629 * 16807 + 40009 * k * k + 7919 * k + 1009) % 2147483645, ?_, ?_, ?_⟩
  · have k2 : (k : Int) * k ≤ 100 * 100 := Int.mul_le_mul (by omega) (by omega) (by omega) (by omega)
    have k3 : 0 ≤ 40009 * (k : Int) := by omega
    exact ev_op rfl (ev_op (ev_op (ev_op (ev_op (ev_op (ev_op rfl rfl rfl rfl (b_mod (by decide))) rfl rfl rfl (b_mul (abs_lt c1 (by omega)) (abs_lt (by decide) (by decide)))) (ev_op (ev_op rfl rfl rfl rfl (b_mul (abs_lt (by decide) (by decide)) (abs_lt (by omega) (by omega)))) rfl rfl rfl (b_mul (abs_lt k3 (by omega)) (abs_lt (by omega) (by omega)))) rfl rfl rfl) (ev_op rfl rfl rfl rfl (b_mul (abs_lt (by decide) (by decide)) (abs_lt (by omega) (by omega)))) rfl rfl rfl) rfl rfl rfl rfl) rfl rfl rfl (b_mod (by decide))) rfl rfl rfl
  · have := Int.emod_nonneg (c % 2147483629 * 16807 + 40009 * k * k + 7919 * k + 1009) (show (2147483645 : Int) ≠ 0 by decide)
    omega
  · have := Int.emod_lt_of_pos (c % 2147483629 * 16807 + 40009 * k * k + 7919 * k + 1009) (show (0 : Int) < 2147483645 by decide)
    omega
theorem ev_cmp {cx : Ctx} {o : CmpOp} {a b : C} {ρ ρ1 ρ2 : Env} {x y : Rv} {dx dy : D} {z : Bool} (h1 : ev cx a ρ = .ok (x, ρ1)) (h2 : ev cx b ρ1 = .ok (y, ρ2)) (h3 : read ρ2 x = some dx) (h4 : read ρ2 y = some dy) (h5 : cmpop o dx dy = some z) : ev cx (.cmp o a b) ρ = .ok (.d (.bool z), ρ2) := by
  rw [ev, h1, R.bd_ok, h2, R.bd_ok, h3, got_some, h4, got_some, h5, got_some]
theorem ev_tr {cx : Ctx} {a : C} {ρ ρ1 : Env} {z : Bool} (h1 : ev cx a ρ = .ok (.d (.bool z), ρ1)) : ev cx (.tr a) ρ = .ok (.d (.bool z), ρ1) := by
  rw [ev, h1, R.bd_ok]
  rfl
theorem sem_bag {cx : Ctx} : BagF (f_law_bag cx) := by
  refine ⟨rfl, fun ns k hk => ?_⟩
  have p1 : (0 : Int) < 10 ^ 60 := by decide +kernel
  -- the cell
  obtain ⟨c, e1, c0, c1⟩ : ∃ c : Int, xec cx (.seq (.asg 2 (.k (.int 0))) (.seq (.ife (.tr (.cmp .Lt (.v 1) (.bi .len (.cons (.v 0) .nil)))) (.seq (.asg 2 (.op .Mod (.ix (.v 0) (.v 1)) (.op .Pow (.k (.int 10)) (.k (.int 60))))) .nil) .nil) .nil)) [.fz (scrD ns), .fz (.int k), .no, .no] = .nx [.fz (scrD ns), .fz (.int k), .fz (.int c), .no] ∧ 0 ≤ c ∧ c < 10 ^ 60 := by
    have t1 : ev cx (.tr (.cmp .Lt (.v 1) (.bi .len (.cons (.v 0) .nil)))) [.fz (scrD ns), .fz (.int k), .fz (.int 0), .no] = .ok (.d (.bool (decide ((k : Int) < (ns.map PyData.int).length))), [.fz (scrD ns), .fz (.int k), .fz (.int 0), .no]) := ev_tr (ev_cmp rfl rfl rfl rfl rfl)
    rw [List.length_map] at t1
    by_cases h : k < ns.length
    · refine ⟨ns[k] % 10 ^ 60, ?_, Int.emod_nonneg _ (by omega), Int.emod_lt_of_pos _ p1⟩
      have ix : index (scrD ns) (.int k) = some (.d (.int ns[k])) := by
        show (L2.atI (ns.map PyData.int) k).map Rv.d = _
        have : L2.atI (ns.map PyData.int) (k : Int) = some (.int ns[k]) := by
          unfold L2.atI
          rw [ixN_nat (by omega) (by rw [List.length_map]; omega)]
          simp [h]
        rw [this]
        rfl
      rw [xec_seq (xec_asg rfl rfl), xec_seq (ρ1 := [.fz (scrD ns), .fz (.int k), .fz (.int (ns[k] % 10 ^ 60)), .no]) ?_]
      · rfl
      · refine (xec_if t1).trans ?_
        rw [if_pos (decide_eq_true (by omega))]
        have t2 : ev cx (.ix (.v 0) (.v 1)) [.fz (scrD ns), .fz (.int k), .fz (.int 0), .no] = .ok (.d (.int ns[k]), [.fz (scrD ns), .fz (.int k), .fz (.int 0), .no]) := by
          rw [ev]
          show (got (index (scrD ns) (.int k)) fun z => R.ok (z, _)) = _
          rw [ix]
          rfl
        have t3 : ev cx (.op .Mod (.ix (.v 0) (.v 1)) (.op .Pow (.k (.int 10)) (.k (.int 60)))) [.fz (scrD ns), .fz (.int k), .fz (.int 0), .no] = .ok (.d (.int (ns[k] % 10 ^ 60)), [.fz (scrD ns), .fz (.int k), .fz (.int 0), .no]) :=
          ev_op t2 (ev_10_60 (by decide)) rfl rfl (b_mod p1)
        rw [xec_seq (xec_asg t3 rfl)]
        rfl
    · refine ⟨0, ?_, by decide, p1⟩
      rw [xec_seq (xec_asg rfl rfl), xec_seq (ρ1 := [.fz (scrD ns), .fz (.int k), .fz (.int 0), .no]) ?_]
      · rfl
      · refine (xec_if t1).trans ?_
        rw [if_neg (by simp; omega)]
        rfl
  obtain ⟨sd, e2, s0, s1⟩ := ev_seed (cx := cx) (s0 := .fz (scrD ns)) (s3 := .no) c0 hk
  have t1 : ev cx (.tr (.cmp .Lt (.v 2) (.op .Pow (.k (.int 10)) (.k (.int 18))))) [.fz (scrD ns), .fz (.int k), .fz (.int c), .fz (.int sd)] = .ok (.d (.bool (decide (c < 10 ^ 18))), [.fz (scrD ns), .fz (.int k), .fz (.int c), .fz (.int sd)]) :=
    ev_tr (ev_cmp rfl (ev_10_60 (by decide)) rfl rfl rfl)
  have split3 : ∀ {a b r : S} {ρ ρ1 : Env}, xec cx (.seq a (.seq b .nil)) ρ = .nx ρ1 → xec cx (.seq a (.seq b r)) ρ = xec cx r ρ1 := fun {a b r ρ ρ1} h => by
    have h : (xec cx a ρ).seq (fun ρ => (xec cx b ρ).seq fun ρ => .nx ρ) = .nx ρ1 := h
    show (xec cx a ρ).seq (fun ρ => (xec cx b ρ).seq fun ρ => xec cx r ρ) = _
    cases ga : xec cx a ρ with
    | nx ρ2 =>
      rw [ga, F.seq_nx] at h
      rw [F.seq_nx]
      cases gb : xec cx b ρ2 with
      | nx ρ3 => rw [gb] at h; cases h; rfl
      | rt _ _ _ => rw [gb] at h; cases h
      | bk _ => rw [gb] at h; cases h
      | ct _ => rw [gb] at h; cases h
      | er _ => rw [gb] at h; cases h
      | no => rw [gb] at h; cases h
    | rt _ _ _ => rw [ga] at h; cases h
    | bk _ => rw [ga] at h; cases h
    | ct _ => rw [ga] at h; cases h
    | er _ => rw [ga] at h; cases h
    | no => rw [ga] at h; cases h
  have e4 := split3 (r := .seq (.asg 3 seedC) (.seq (.ife (.tr (.cmp .Lt (.v 2) (.op .Pow (.k (.int 10)) (.k (.int 18))))) (.seq (.ret (.lst (.cons (.k (.int 0)) (.cons (.v 3) .nil)))) .nil) .nil) (.seq (.ret (.lst (.cons (.v 2) (.cons (.v 3) .nil)))) .nil))) e1
  have e5 : ∀ r, xec cx (.seq (.asg 3 seedC) r) [.fz (scrD ns), .fz (.int k), .fz (.int c), .no] = xec cx r [.fz (scrD ns), .fz (.int k), .fz (.int c), .fz (.int sd)] := fun r => xec_seq (xec_asg e2 rfl)
  by_cases h : c < 10 ^ 18
  · refine ⟨0, sd, ?_, by decide, p1, s0, s1⟩
    refine run_rt (ρ0 := [.fz (scrD ns), .fz (.int k), .no, .no]) rfl ⟨[.fz (scrD ns), .fz (.int k), .fz (.int c), .fz (.int sd)], ?_⟩
    refine (e4.trans ((e5 _).trans ?_))
    rw [xec, xec_if t1, if_pos (decide_eq_true h)]
    rfl
  · refine ⟨c, sd, ?_, c0, c1, s0, s1⟩
    refine run_rt (ρ0 := [.fz (scrD ns), .fz (.int k), .no, .no]) rfl ⟨[.fz (scrD ns), .fz (.int k), .fz (.int c), .fz (.int sd)], ?_⟩
    refine (e4.trans ((e5 _).trans ?_))
    rw [xec, xec_if t1, if_neg (by simpa using h)]
    rfl
end Iv
set_option maxRecDepth 100000
set_option maxHeartbeats 4000000
namespace Iv
open PySem PySem.Spec PyProof.Rows L2
/-! ### sorting -/
theorem leD_trans (a b c : D) (h1 : leD a b = true) (h2 : leD b c = true) : leD a c = true := by
  unfold leD PySem.W.dataLt at *
  simp only [Bool.not_eq_true'] at *
  cases h : PyProof.Rows.lexLt itemOrd (PySem.W.keyToks c) (PySem.W.keyToks a) with
  | false => rfl
  | true =>
    rcases lex_negTrans _ (PySem.W.keyToks b) _ h with q | q
    · rw [h2] at q; cases q
    · rw [h1] at q; cases q
theorem leD_total (a b : D) : (leD a b || leD b a) = true := by
  unfold leD PySem.W.dataLt
  cases h : PyProof.Rows.lexLt itemOrd (PySem.W.keyToks b) (PySem.W.keyToks a) with
  | false => rfl
  | true =>
    cases h2 : PyProof.Rows.lexLt itemOrd (PySem.W.keyToks a) (PySem.W.keyToks b) with
    | false => rfl
    | true =>
      have := lex_trans _ _ _ h h2
      rw [lex_irrefl] at this
      cases this
theorem lt1 (a c : Int) (r t : List (Int ⊕ List Nat)) : PyProof.Rows.lexLt itemOrd (.inl a :: r) (.inl c :: t) = (decide (a < c) || (!decide (c < a) && PyProof.Rows.lexLt itemOrd r t)) := rfl
theorem le1 (a c : Int) : leD (.int a) (.int c) = decide (a ≤ c) := by
  show (!PyProof.Rows.lexLt itemOrd [.inl c] [.inl a]) = _
  rw [lt1]
  by_cases h : a ≤ c
  · rw [decide_eq_true h, decide_eq_false (by omega : ¬ c < a)]
    show (!(false || (!decide (a < c) && false))) = true
    simp
  · rw [decide_eq_false h, decide_eq_true (by omega : c < a)]
    rfl
theorem le2 (a b c d : Int) : leD (.tuple [.int a, .int b]) (.tuple [.int c, .int d]) = (decide (a < c) || (decide (a = c) && decide (b ≤ d))) := by
  show (!PyProof.Rows.lexLt itemOrd [.inl 1, .inl c, .inl 1, .inl d, .inl 0] [.inl 1, .inl a, .inl 1, .inl b, .inl 0]) = _
  rw [lt1, lt1, lt1, lt1, lt1]
  have e : PyProof.Rows.lexLt itemOrd ([] : List (Int ⊕ List Nat)) [] = false := rfl
  rw [e]
  rcases Int.lt_trichotomy a c with h | h | h
  · simp [h, Int.lt_asymm h, Int.lt_irrefl]
  · subst h
    rcases Int.lt_trichotomy b d with h | h | h
    · have : ¬ d < b := by omega
      have h2 : b ≤ d := by omega
      simp [h, this, h2]
    · subst h
      simp
    · have : ¬ b < d := by omega
      have h2 : ¬ b ≤ d := by omega
      simp [h, this, h2]
  · have h2 : ¬ a < c := by omega
    have h3 : ¬ a = c := by omega
    simp [h, h2, h3]
theorem sort_eq {l t : List D} (hp : List.Perm l t) (hs : t.Pairwise (fun a b => leD a b = true)) (anti : ∀ a b, a ∈ t → b ∈ t → leD a b = true → leD b a = true → a = b) : sortD l = t := by
  have p := (List.mergeSort_perm l leD).trans hp
  exact List.Perm.eq_of_pairwise (fun a b ha hb => anti a b (p.mem_iff.mp ha) hb) (List.pairwise_mergeSort (le := leD) leD_trans leD_total l) hs p
theorem sorts_of {l : List D} (h1 : alikeAll l = true) (h2 : sortable l = true) (h3 : l.length ≤ big) (h4 : l.all SeqAt.shaped = true) : sorts l = some (sortD l) := by
  unfold sorts
  rw [if_pos ⟨h1, h2, h3, h4⟩]
def pairD (p : Int × Int) : D := .tuple [.int p.1, .int p.2]
theorem sorts_pairs (l : List (Int × Int)) (h : l.length ≤ big) : sorts (l.map pairD) = some (sortD (l.map pairD)) := by
  refine sorts_of ?_ ?_ (by rw [List.length_map]; exact h) ?_
  · unfold alikeAll
    simp only [List.all_eq_true, List.mem_map]
    rintro _ ⟨a, _, rfl⟩ _ ⟨b, _, rfl⟩
    rfl
  · unfold sortable
    rw [Bool.or_eq_true]
    refine .inl (List.all_eq_true.mpr ?_)
    rintro x hx
    obtain ⟨a, _, rfl⟩ := List.mem_map.mp hx
    rfl
  · refine List.all_eq_true.mpr fun x hx => ?_
    obtain ⟨a, _, rfl⟩ := List.mem_map.mp hx
    rfl
theorem sorts_ints (l : List Int) (h : l.length ≤ big) : sorts (l.map .int) = some (sortD (l.map .int)) := by
  refine sorts_of ?_ ?_ (by rw [List.length_map]; exact h) ?_
  · unfold alikeAll
    simp only [List.all_eq_true, List.mem_map]
    rintro _ ⟨a, _, rfl⟩ _ ⟨b, _, rfl⟩
    rfl
  · unfold sortable
    rw [Bool.or_eq_true]
    refine .inr (List.all_eq_true.mpr ?_)
    rintro x hx
    obtain ⟨a, _, rfl⟩ := List.mem_map.mp hx
    rfl
  · refine List.all_eq_true.mpr fun x hx => ?_
    obtain ⟨a, _, rfl⟩ := List.mem_map.mp hx
    rfl
/-! ### the dance on places -/
/-- where place q goes in round t, n couples -/
def sg (n t q : Nat) : Nat := if (q + t) % 2 = 0 then (if q + 1 < n then q + 1 else q) else q - 1
theorem sg_lt {n t q : Nat} (h : q < n) : sg n t q < n := by
  unfold sg
  split
  · split <;> omega
  · omega
theorem sg_sg {n t q : Nat} (h : q < n) : sg n t (sg n t q) = q := by
  unfold sg
  by_cases h1 : (q + t) % 2 = 0
  · rw [if_pos h1]
    by_cases h2 : q + 1 < n
    · rw [if_pos h2, if_neg (by omega)]
      omega
    · rw [if_neg h2, if_pos h1, if_neg h2]
  · rw [if_neg h1]
    by_cases h2 : q = 0
    · subst h2
      rw [if_neg (by simpa using h1)]
    · rw [if_pos (by omega), if_pos (by omega)]
      omega
theorem sg_perm (n t : Nat) : List.Perm ((List.range n).map (sg n t)) (List.range n) := by
  have nd : ((List.range n).map (sg n t)).Nodup := by
    rw [List.nodup_iff_pairwise_ne, List.pairwise_map]
    refine List.Pairwise.imp_of_mem (R := (· ≠ ·)) (fun {a b} ha hb hab e => hab ?_) List.nodup_range
    rw [← sg_sg (t := t) (List.mem_range.mp ha), e, sg_sg (List.mem_range.mp hb)]
  refine (List.perm_ext_iff_of_nodup nd List.nodup_range).mpr fun q => ?_
  rw [List.mem_map, List.mem_range]
  exact ⟨fun ⟨a, ha, e⟩ => e ▸ sg_lt (List.mem_range.mp ha), fun h => ⟨sg n t q, List.mem_range.mpr (sg_lt h), sg_sg h⟩⟩
def placeOf (n s : Int) : Int := if s < n then s else 2 * n - 1 - s
def spotOf (n p t : Int) : Int := if (p - t) % 2 = 0 then p else 2 * n - 1 - p
def dest (n p t r : Int) : Int := placeOf n ((spotOf n p t + r) % (2 * n))
/-- where place p is after t rounds from round 0 -/
def pos (n : Nat) (p : Nat) : Nat → Nat
  | 0 => p
  | t + 1 => sg n t (pos n p t)
theorem pos_lt {n p : Nat} (h : p < n) : ∀ t, pos n p t < n
  | 0 => h
  | t + 1 => sg_lt (pos_lt h t)
theorem pos_perm (n : Nat) : ∀ t, List.Perm ((List.range n).map fun p => pos n p t) (List.range n)
  | 0 => by
    show List.Perm ((List.range n).map fun p => p) _
    rw [List.map_id']
  | t + 1 => by
    have : ((List.range n).map fun p => pos n p (t + 1)) = ((List.range n).map fun p => pos n p t).map (sg n t) := by
      rw [List.map_map]
      rfl
    rw [this]
    exact ((pos_perm n t).map _).trans (sg_perm n t)
/-- the spot after t rounds -/
theorem spot_step {n : Nat} (hn : 0 < n) (x : Int) : (x + 1) % (2 * n : Int) = if x % (2 * n : Int) + 1 = 2 * n then 0 else x % (2 * n : Int) + 1 := by
  have h1 := Int.emod_nonneg x (show (2 * n : Int) ≠ 0 by omega)
  have h2 := Int.emod_lt_of_pos x (show (0 : Int) < 2 * n by omega)
  rw [← Int.emod_add_emod]
  split
  · rename_i e
    rw [e, Int.emod_self]
  · rw [Int.emod_eq_of_lt (by omega) (by omega)]
theorem dest_pos {n p : Nat} (hp : p < n) : ∀ t : Nat, dest n p 0 t = pos n p t ∧ (spotOf n p 0 + t) % (2 * n : Int) % 2 = (t : Int) % 2
  | 0 => by
    have e0 : (spotOf n p 0 + ((0 : Nat) : Int)) % (2 * n : Int) = spotOf n p 0 := by
      unfold spotOf
      rw [Int.emod_eq_of_lt] <;> split <;> omega
    constructor
    · show placeOf n _ = _
      rw [e0]
      unfold placeOf spotOf
      show _ = ((p : Nat) : Int)
      split <;> split <;> omega
    · rw [e0]
      unfold spotOf
      split <;> omega
  | t + 1 => by
    obtain ⟨ih, par⟩ := dest_pos hp t
    have hn : 0 < n := by omega
    have es := spot_step hn (spotOf n p 0 + t)
    have e1 : (spotOf n p 0 + ((t + 1 : Nat) : Int)) = spotOf n p 0 + t + 1 := by omega
    unfold dest placeOf at ih
    have s0 := Int.emod_nonneg (spotOf n p 0 + t) (show (2 * n : Int) ≠ 0 by omega)
    have s1 := Int.emod_lt_of_pos (spotOf n p 0 + t) (show (0 : Int) < 2 * n by omega)
    constructor
    · show placeOf n ((spotOf n p 0 + ((t + 1 : Nat) : Int)) % (2 * n)) = ((sg n t (pos n p t) : Nat) : Int)
      rw [e1, es]
      generalize (spotOf n p 0 + t) % (2 * n : Int) = s at *
      unfold placeOf sg
      have hl := pos_lt hp t
      generalize pos n p t = q at *
      split at ih <;> split <;> split <;> split <;> (try split) <;> omega
    · rw [e1, es]
      generalize (spotOf n p 0 + t) % (2 * n : Int) = s at *
      split <;> omega
end Iv
set_option maxRecDepth 100000
set_option maxHeartbeats 4000000
namespace Iv
open PySem PySem.Spec PyProof.Rows L2
/-! ### the line after t rounds -/
def stepL (L : List Int) (t : Nat) : List Int := (List.range L.length).map fun q => L.getD (sg L.length t q) 0
def lineAt (ns : List Int) : Nat → List Int
  | 0 => ns
  | t + 1 => stepL (lineAt ns t) t
theorem stepL_len {L : List Int} {t : Nat} : (stepL L t).length = L.length := by simp [stepL]
theorem lineAt_len {ns : List Int} : ∀ t, (lineAt ns t).length = ns.length
  | 0 => rfl
  | t + 1 => stepL_len.trans (lineAt_len t)
theorem stepL_get {L : List Int} {t q : Nat} (h : q < L.length) : (stepL L t).getD q 0 = L.getD (sg L.length t q) 0 := by
  rw [List.getD_eq_getElem?_getD]
  unfold stepL
  rw [List.getElem?_map, List.getElem?_range h]
  rfl
theorem lineAt_pos {ns : List Int} {p : Nat} (h : p < ns.length) : ∀ t, (lineAt ns t).getD (pos ns.length p t) 0 = ns.getD p 0
  | 0 => rfl
  | t + 1 => by
    show (stepL (lineAt ns t) t).getD (sg ns.length t (pos ns.length p t)) 0 = _
    have e := lineAt_len (ns := ns) t
    rw [stepL_get (by rw [e]; exact sg_lt (pos_lt h t)), e, sg_sg (pos_lt h t)]
    exact lineAt_pos h t
theorem getD_map {L : List Int} : (List.range L.length).map (fun q => L.getD q 0) = L := by
  apply List.ext_getElem?
  intro i
  rw [List.getElem?_map]
  by_cases h : i < L.length
  · rw [List.getElem?_range h]
    simp [h]
  · rw [List.getElem?_eq_none (by simpa using h), List.getElem?_eq_none (by simpa using h)]
    rfl
/-- the rows that moved makes -/
def rowsF (n t r : Int) : Nat → List Int → List (Int × Int)
  | _, [] => []
  | k, x :: xs => (dest n k t r, x) :: rowsF n t r (k + 1) xs
theorem rowsF_eq (n t r : Int) : ∀ (k : Nat) (xs : List Int), rowsF n t r k xs = (List.range xs.length).map fun p => (dest n ((k + p : Nat) : Int) t r, xs.getD p 0)
  | _, [] => rfl
  | k, x :: xs => by
    rw [rowsF, rowsF_eq n t r (k + 1) xs, List.length_cons, List.range_succ_eq_map, List.map_cons, List.map_map]
    congr 1
    apply List.map_congr_left
    intro p _
    show (dest n ((k + 1 + p : Nat) : Int) t r, xs.getD p 0) = (dest n ((k + (p + 1) : Nat) : Int) t r, (x :: xs).getD (p + 1) 0)
    rw [show k + 1 + p = k + (p + 1) by omega, List.getD_cons_succ]
theorem rowsF_len (n t r : Int) (k : Nat) (xs : List Int) : (rowsF n t r k xs).length = xs.length := by
  rw [rowsF_eq]
  simp
def target (L : List Int) : List (Int × Int) := (List.range L.length).map fun (q : Nat) => ((q : Int), L.getD q 0)
theorem rows_perm (ns : List Int) (t : Nat) : List.Perm (rowsF ns.length 0 t 0 ns) (target (lineAt ns t)) := by
  have e : rowsF ns.length 0 t 0 ns = ((List.range ns.length).map fun p => pos ns.length p t).map fun (q : Nat) => ((q : Int), (lineAt ns t).getD q 0) := by
    rw [rowsF_eq, List.map_map]
    apply List.map_congr_left
    intro p hp
    have hp := List.mem_range.mp hp
    show (dest ns.length ((0 + p : Nat) : Int) 0 t, ns.getD p 0) = (((pos ns.length p t : Nat) : Int), (lineAt ns t).getD (pos ns.length p t) 0)
    rw [Nat.zero_add, (dest_pos hp t).1, lineAt_pos hp t]
  rw [e, target, lineAt_len]
  exact (pos_perm ns.length t).map _
theorem sort_rows (ns : List Int) (t : Nat) : sortD ((rowsF ns.length 0 t 0 ns).map pairD) = (target (lineAt ns t)).map pairD := by
  refine sort_eq ((rows_perm ns t).map _) ?_ ?_
  · rw [List.pairwise_map]
    unfold target
    rw [List.pairwise_map]
    refine List.Pairwise.imp (fun {a b} hab => ?_) List.pairwise_lt_range
    show leD (.tuple [.int (a : Nat), .int _]) (.tuple [.int (b : Nat), .int _]) = true
    rw [le2, decide_eq_true (by omega)]
    rfl
  · rintro x y hx hy h1 h2
    obtain ⟨a, _, rfl⟩ := List.mem_map.mp hx
    obtain ⟨b, _, rfl⟩ := List.mem_map.mp hy
    unfold pairD at *
    rw [le2] at h1 h2
    simp only [Bool.or_eq_true, Bool.and_eq_true, decide_eq_true_eq] at h1 h2
    have e1 : a.1 = b.1 := by omega
    have e2 : a.2 = b.2 := by omega
    rw [e1, e2]

/-! ### place_of, spot_of, moved -/
def PlaceF (f : FI) : Prop := f.io = false ∧ ∀ n s : Int, n.natAbs < 2 ^ 62 → f.sem [.int n, .int s] = .ok (.int (placeOf n s)) false
def SpotF (f : FI) : Prop := f.io = false ∧ ∀ n p t : Int, n.natAbs < 2 ^ 62 → f.sem [.int n, .int p, .int t] = .ok (.int (spotOf n p t)) false
theorem ev_ife {cx : Ctx} {t a b : C} {ρ ρ1 : Env} {k : Bool} (h : ev cx t ρ = .ok (.d (.bool k), ρ1)) : ev cx (.ife t a b) ρ = if k = true then ev cx a ρ1 else ev cx b ρ1 := by
  rw [ev, h, R.bd_ok]
  cases k <;> rfl
theorem nat2 : (2 : Int).natAbs < 2 ^ 1000 := abs_lt (by decide) (by decide)
theorem nabs {n : Int} (h : n.natAbs < 2 ^ 62) : n.natAbs < 2 ^ 1000 := Nat.lt_trans h (by decide +kernel)
theorem sem_place {cx : Ctx} : PlaceF (f_place_of cx) := by
  refine ⟨rfl, fun n s hn => ?_⟩
  refine run_rt (ρ0 := [.fz (.int n), .fz (.int s)]) rfl ⟨[.fz (.int n), .fz (.int s)], ?_⟩
  have e1 : ev cx (.tr (.cmp .Lt (.v 1) (.v 0))) [.fz (.int n), .fz (.int s)] = .ok (.d (.bool (decide (s < n))), [.fz (.int n), .fz (.int s)]) := ev_tr (ev_cmp rfl rfl rfl rfl rfl)
  have e2 : ev cx (.op .Sub (.op .Sub (.op .Mult (.k (.int 2)) (.v 0)) (.k (.int 1))) (.v 1)) [.fz (.int n), .fz (.int s)] = .ok (.d (.int (2 * n - 1 - s)), [.fz (.int n), .fz (.int s)]) :=
    ev_op (ev_op (ev_op rfl rfl rfl rfl (b_mul nat2 (nabs hn))) rfl rfl rfl rfl) rfl rfl rfl rfl
  have e3 : ev cx (.ife (.tr (.cmp .Lt (.v 1) (.v 0))) (.v 1) (.op .Sub (.op .Sub (.op .Mult (.k (.int 2)) (.v 0)) (.k (.int 1))) (.v 1))) [.fz (.int n), .fz (.int s)] = .ok (.d (.int (placeOf n s)), [.fz (.int n), .fz (.int s)]) := by
    rw [ev_ife e1]
    unfold placeOf
    by_cases h : s < n
    · rw [if_pos (decide_eq_true h), if_pos h]
      rfl
    · rw [if_neg (by simpa using h), if_neg h]
      exact e2
  show (F.seq (lift (ev cx _ _) retF) _) = _
  rw [e3]
  rfl
theorem sem_spot {cx : Ctx} : SpotF (f_spot_of cx) := by
  refine ⟨rfl, fun n p t hn => ?_⟩
  refine run_rt (ρ0 := [.fz (.int n), .fz (.int p), .fz (.int t)]) rfl ⟨[.fz (.int n), .fz (.int p), .fz (.int t)], ?_⟩
  have e1 : ev cx (.tr (.cmp .Eq (.op .Mod (.op .Sub (.v 1) (.v 2)) (.k (.int 2))) (.k (.int 0)))) [.fz (.int n), .fz (.int p), .fz (.int t)] = .ok (.d (.bool (decide ((p - t) % 2 = 0))), [.fz (.int n), .fz (.int p), .fz (.int t)]) := by
    have m : ev cx (.op .Mod (.op .Sub (.v 1) (.v 2)) (.k (.int 2))) [.fz (.int n), .fz (.int p), .fz (.int t)] = .ok (.d (.int ((p - t) % 2)), [.fz (.int n), .fz (.int p), .fz (.int t)]) := ev_op (ev_op rfl rfl rfl rfl rfl) rfl rfl rfl (b_mod (by decide))
    refine ev_tr (ev_cmp m rfl rfl rfl ?_)
    show (if SeqAt.shaped (.int ((p - t) % 2)) = true ∧ SeqAt.shaped (.int 0) = true then some (PyData.eqv (.int ((p - t) % 2)) (.int 0)) else none) = _
    rw [if_pos ⟨rfl, rfl⟩]
    congr 1
  have e2 : ev cx (.op .Sub (.op .Sub (.op .Mult (.k (.int 2)) (.v 0)) (.k (.int 1))) (.v 1)) [.fz (.int n), .fz (.int p), .fz (.int t)] = .ok (.d (.int (2 * n - 1 - p)), [.fz (.int n), .fz (.int p), .fz (.int t)]) :=
    ev_op (ev_op (ev_op rfl rfl rfl rfl (b_mul nat2 (nabs hn))) rfl rfl rfl rfl) rfl rfl rfl rfl
  have e3 : ev cx (.ife (.tr (.cmp .Eq (.op .Mod (.op .Sub (.v 1) (.v 2)) (.k (.int 2))) (.k (.int 0)))) (.v 1) (.op .Sub (.op .Sub (.op .Mult (.k (.int 2)) (.v 0)) (.k (.int 1))) (.v 1))) [.fz (.int n), .fz (.int p), .fz (.int t)] = .ok (.d (.int (spotOf n p t)), [.fz (.int n), .fz (.int p), .fz (.int t)]) := by
    rw [ev_ife e1]
    unfold spotOf
    by_cases h : (p - t) % 2 = 0
    · rw [if_pos (decide_eq_true h), if_pos h]
      rfl
    · rw [if_neg (by simpa using h), if_neg h]
      exact e2
  show (F.seq (lift (ev cx _ _) retF) _) = _
  rw [e3]
  rfl
end Iv
set_option maxRecDepth 100000
set_option maxHeartbeats 4000000
namespace Iv
open PySem PySem.Spec PyProof.Rows L2
/-! ### moved -/
abbrev movedBody (p q : Nat) : S := .seq (.app 4 (.tup (.cons (.call p (.cons (.v 3) (.cons (.op .Mod (.op .Add (.call q (.cons (.v 3) (.cons (.v 5) (.cons (.v 1) .nil)))) (.v 2)) (.op .Mult (.k (.int 2)) (.v 3))) .nil))) (.cons (.v 6) .nil)))) .nil
def movedC (p q : Nat) : S := .seq (.asg 3 (.bi .len (.cons (.v 0) .nil))) (.seq (.asg 4 (.lst .nil)) (.seq (.for (.t [5, 6]) .enum (.cons (.v 0) .nil) (movedBody p q)) (.seq (.ret (.bi .tuple (.cons (.lc [5, 6] (.v 6) (.t [5, 6]) .seq (.cons (.bi .sorted (.cons (.v 4) .nil)) .nil) (.k (.bool true))) .nil))) .nil)))
section
variable {cx : Ctx} {fp fq : FI} {p q : Nat}
theorem ev_cons {a b : C} {ρ ρ1 ρ2 : Env} {x : Rv} {ys : List Rv} (h1 : ev cx a ρ = .ok (x, ρ1)) (h2 : ev cx b ρ1 = .ok (.l ys, ρ2)) : ev cx (.cons a b) ρ = .ok (.l (x :: ys), ρ2) := by
  rw [ev, h1, R.bd_ok, h2, R.bd_ok]
  rfl
theorem ev_tup {a : C} {ρ ρ1 ρ2 : Env} {rs : List Rv} {ds : List D} (h1 : ev cx a ρ = .ok (.l rs, ρ1)) (h2 : escs ρ1 rs = some (ds, ρ2)) (h3 : ds.length ≤ big) : ev cx (.tup a) ρ = .ok (.d (.tuple ds), ρ2) := by
  rw [ev, h1, R.bd_ok]
  show (got (escs ρ1 rs) fun p => if p.1.length ≤ big then R.ok (Rv.d (.tuple p.1), p.2) else .no) = _
  rw [h2, got_some, if_pos h3]
theorem ev_bi {b : Bi} {a : C} {ρ ρ1 : Env} {rs : List Rv} {ds : List D} {z : Rv} (h1 : ev cx a ρ = .ok (.l rs, ρ1)) (h2 : reads ρ1 rs = some ds) (h3 : builtin b ds = some z) : ev cx (.bi b a) ρ = .ok (z, ρ1) := by
  rw [ev, h1, R.bd_ok]
  show (got (reads ρ1 rs) fun ds => got (builtin b ds) fun z => R.ok (z, ρ1)) = _
  rw [h2, got_some, h3, got_some]
theorem moved_step (hp : cx.fs[p]? = some fp) (Hp : PlaceF fp) (hq : cx.fs[q]? = some fq) (Hq : SpotF fq) {l : D} {t r n k x : Int} (hn0 : 0 < n) (hn : n.natAbs < 2 ^ 62) {acc : List (Int × Int)} (hl : acc.length < big) :
    xec cx (movedBody p q) [.fz l, .fz (.int t), .fz (.int r), .fz (.int n), .ow (.list (acc.map pairD)), .fz (.int k), .fz (.int x)] =
      .nx [.fz l, .fz (.int t), .fz (.int r), .fz (.int n), .ow (.list ((acc ++ [(dest n k t r, x)]).map pairD)), .fz (.int k), .fz (.int x)] := by
  generalize hρ : [Slot.fz l, .fz (.int t), .fz (.int r), .fz (.int n), .ow (.list (acc.map pairD)), .fz (.int k), .fz (.int x)] = ρ
  have e1 : ev cx (.call q (.cons (.v 3) (.cons (.v 5) (.cons (.v 1) .nil)))) ρ = .ok (.d (.int (spotOf n k t)), ρ) := by
    subst hρ
    rw [ev_call (rs := [.d (.int n), .d (.int k), .d (.int t)]) hq Hq.1 rfl rfl, Hq.2 n k t hn]
    rfl
  have e2 : ev cx (.op .Mod (.op .Add (.call q (.cons (.v 3) (.cons (.v 5) (.cons (.v 1) .nil)))) (.v 2)) (.op .Mult (.k (.int 2)) (.v 3))) ρ = .ok (.d (.int ((spotOf n k t + r) % (2 * n))), ρ) := by
    subst hρ
    exact ev_op (ev_op e1 rfl rfl rfl rfl) (ev_op rfl rfl rfl rfl (b_mul nat2 (nabs hn))) rfl rfl (b_mod (by omega))
  have e3 : ev cx (.call p (.cons (.v 3) (.cons (.op .Mod (.op .Add (.call q (.cons (.v 3) (.cons (.v 5) (.cons (.v 1) .nil)))) (.v 2)) (.op .Mult (.k (.int 2)) (.v 3))) .nil))) ρ = .ok (.d (.int (dest n k t r)), ρ) := by
    have e0 : ev cx (.v 3) ρ = .ok (.d (.int n), ρ) := by subst hρ; rfl
    rw [ev_call (rs := [.d (.int n), .d (.int ((spotOf n k t + r) % (2 * n)))]) hp Hp.1 (ev_cons e0 (ev_cons e2 rfl)) rfl, Hp.2 n _ hn]
    rfl
  have e4 : ev cx (.tup (.cons (.call p (.cons (.v 3) (.cons (.op .Mod (.op .Add (.call q (.cons (.v 3) (.cons (.v 5) (.cons (.v 1) .nil)))) (.v 2)) (.op .Mult (.k (.int 2)) (.v 3))) .nil))) (.cons (.v 6) .nil))) ρ = .ok (.d (.tuple [.int (dest n k t r), .int x]), ρ) := by
    have e0 : ev cx (.cons (.v 6) .nil) ρ = .ok (.l [.d (.int x)], ρ) := by subst hρ; rfl
    exact ev_tup (ev_cons e3 e0) rfl (by show 2 ≤ big; decide)
  have e5 := xec_app (i := 4) (xs0 := acc.map pairD) (by subst hρ; rfl) e4 rfl (xs := acc.map pairD) (by subst hρ; rfl) (by rw [List.length_map]; exact hl)
  have e6 : (acc ++ [(dest n k t r, x)]).map pairD = acc.map pairD ++ [.tuple [.int (dest n k t r), .int x]] := List.map_append
  rw [xec_seq e5, e6]
  subst hρ
  rfl
theorem mv_loop (hp : cx.fs[p]? = some fp) (Hp : PlaceF fp) (hq : cx.fs[q]? = some fq) (Hq : SpotF fq) {l : D} {t r n : Int} (hn0 : 0 < n) (hn : n.natAbs < 2 ^ 62) (xs : List Int) : ∀ (k : Nat) (acc : List (Int × Int)) (s5 s6 : Slot), acc.length + xs.length < big → ∃ s5' s6',
    forGo (xec cx (movedBody p q)) (.t [5, 6]) (enumD k (xs.map .int)) [.fz l, .fz (.int t), .fz (.int r), .fz (.int n), .ow (.list (acc.map pairD)), s5, s6] =
      .nx [.fz l, .fz (.int t), .fz (.int r), .fz (.int n), .ow (.list ((acc ++ rowsF n t r k xs).map pairD)), s5', s6'] := by
  induction xs with
  | nil => exact fun k acc s5 s6 _ => ⟨s5, s6, by rw [rowsF, List.append_nil]; rfl⟩
  | cons x xs ih =>
    intro k acc s5 s6 hl
    rw [List.length_cons] at hl
    obtain ⟨s5', s6', h⟩ := ih (k + 1) (acc ++ [(dest n k t r, x)]) (.fz (.int k)) (.fz (.int x)) (by rw [List.length_append, List.length_singleton]; omega)
    refine ⟨s5', s6', ?_⟩
    rw [List.map_cons, enumD]
    refine (forGo_cons rfl (moved_step hp Hp hq Hq hn0 hn (by omega))).trans ?_
    rw [h, rowsF, List.append_assoc]
    rfl
theorem ev_lc {own : List Nat} {elt : C} {tg : Tg} {w : Wk} {it ifs : C} {ρ ρ1 ρ2 : Env} {rs : List Rv} {ds items ys : List D} (h1 : ev cx it ρ = .ok (.l rs, ρ1)) (h2 : reads ρ1 rs = some ds) (h3 : walked w ds = some items) (h4 : items.length ≤ big)
    (h5 : lcGo (ev cx ifs) (ev cx elt) tg own items (wipeE (wipeE ρ1 (lent rs)) own) [] = .ok (ys, ρ2)) : ev cx (.lc own elt tg w it ifs) ρ = .ok (.f (.list ys), backE (backE ρ2 ρ1 own) ρ1 (lent rs)) := by
  rw [ev, h1, R.bd_ok]
  show (got (reads ρ1 rs) fun ds => got (walked w ds) fun items => if items.length ≤ big then
        (noEr (lcGo (ev cx ifs) (ev cx elt) tg own items (wipeE (wipeE ρ1 (lent rs)) own) [])).bd fun ds ρ2 => R.ok (Rv.f (.list ds), backE (backE ρ2 ρ1 own) ρ1 (lent rs))
      else .no) = _
  rw [h2, got_some, h3, got_some, if_pos h4, h5]
  rfl
theorem lcGo_yes {test elt : Env → R (Rv × Env)} {tg : Tg} {own : List Nat} {x z : D} {xs acc : List D} {ρ ρ1 ρ2 ρ3 ρ4 : Env} {r y : Rv} (h1 : bindT ρ tg x = some ρ1) (h2 : test ρ1 = .ok (r, ρ2)) (h3 : boolOf ρ2 r = some true) (h4 : elt ρ2 = .ok (y, ρ3)) (h5 : esc ρ3 y = some (z, ρ4)) :
    lcGo test elt tg own (x :: xs) ρ acc = lcGo test elt tg own xs (wipeE ρ4 own) (z :: acc) := by
  rw [lcGo, h1, got_some, h2, R.bd_ok, h3, got_some]
  show (elt ρ2).bd _ = _
  rw [h4, R.bd_ok, h5, got_some]
theorem lcGo_not {test elt : Env → R (Rv × Env)} {tg : Tg} {own : List Nat} {x : D} {xs acc : List D} {ρ ρ1 ρ2 : Env} {r : Rv} (h1 : bindT ρ tg x = some ρ1) (h2 : test ρ1 = .ok (r, ρ2)) (h3 : boolOf ρ2 r = some false) :
    lcGo test elt tg own (x :: xs) ρ acc = lcGo test elt tg own xs (wipeE ρ2 own) acc := by
  rw [lcGo, h1, got_some, h2, R.bd_ok, h3, got_some]
/-- [y for (x, y) in ps] -/
theorem lc_snd {s0 s1 s2 s3 s4 : Slot} (xs : List (Int × Int)) : ∀ acc : List D, lcGo (ev cx (.k (.bool true))) (ev cx (.v 6)) (.t [5, 6]) [5, 6] (xs.map pairD) [s0, s1, s2, s3, s4, .no, .no] acc = .ok (acc.reverse ++ xs.map (fun p => .int p.2), [s0, s1, s2, s3, s4, .no, .no]) := by
  induction xs with
  | nil =>
    intro acc
    show R.ok (acc.reverse, _) = R.ok (acc.reverse ++ [], _)
    rw [List.append_nil]
  | cons x xs ih =>
    intro acc
    rw [List.map_cons]
    refine (lcGo_yes (ρ1 := [s0, s1, s2, s3, s4, .fz (.int x.1), .fz (.int x.2)]) (r := .d (.bool true)) (y := .d (.int x.2)) (z := .int x.2) rfl rfl rfl rfl rfl).trans ?_
    refine (ih (.int x.2 :: acc)).trans ?_
    rw [List.reverse_cons, List.map_cons, List.append_assoc]
    rfl
def MovedF (f : FI) : Prop := f.io = false ∧ ∀ (ns : List Int) (t : Nat), 0 < ns.length → ns.length ≤ 1000 → f.sem [intsT ns, .int 0, .int t] = .ok (intsT (lineAt ns t)) false
theorem target_snd (L : List Int) : (target L).map (fun p => PyData.int p.2) = L.map .int := by
  unfold target
  rw [List.map_map]
  have := congrArg (List.map PyData.int) (getD_map (L := L))
  rw [List.map_map] at this
  exact this
theorem sem_moved (hp : cx.fs[p]? = some fp) (Hp : PlaceF fp) (hq : cx.fs[q]? = some fq) (Hq : SpotF fq) (ns : List Int) (t : Nat) (h0 : 0 < ns.length) (h1 : ns.length ≤ 1000) : run cx 7 false (movedC p q) [intsT ns, .int 0, .int t] = .ok (intsT (lineAt ns t)) false := by
  have hb : (big : Nat) = 10000000 := rfl
  obtain ⟨s5, s6, hl⟩ := mv_loop hp Hp hq Hq (l := intsT ns) (t := 0) (r := t) (n := ns.length) (by omega) (by omega) ns 0 [] .no .no (by rw [List.length_nil]; omega)
  have rl : (rowsF ns.length 0 t 0 ns).length = ns.length := rowsF_len ..
  generalize hrows : rowsF ns.length 0 t 0 ns = rows at hl rl
  have tl : (target (lineAt ns t)).length = ns.length := by unfold target; rw [List.length_map, List.length_range, lineAt_len]
  have e1 : xec cx (.asg 3 (.bi .len (.cons (.v 0) .nil))) [.fz (intsT ns), .fz (.int 0), .fz (.int t), .no, .no, .no, .no] = .nx [.fz (intsT ns), .fz (.int 0), .fz (.int t), .fz (.int ns.length), .no, .no, .no] := by
    have : ev cx (.bi .len (.cons (.v 0) .nil)) [.fz (intsT ns), .fz (.int 0), .fz (.int t), .no, .no, .no, .no] = .ok (.d (.int (ns.map PyData.int).length), [.fz (intsT ns), .fz (.int 0), .fz (.int t), .no, .no, .no, .no]) := rfl
    rw [List.length_map] at this
    exact xec_asg this rfl
  have e2 : xec cx (.asg 4 (.lst .nil)) [.fz (intsT ns), .fz (.int 0), .fz (.int t), .fz (.int ns.length), .no, .no, .no] = .nx [.fz (intsT ns), .fz (.int 0), .fz (.int t), .fz (.int ns.length), .ow (.list []), .no, .no] := rfl
  have e3 := xec_for (cx := cx) (tg := .t [5, 6]) (w := .enum) (it := .cons (.v 0) .nil) (body := movedBody p q) (ρ := [.fz (intsT ns), .fz (.int 0), .fz (.int t), .fz (.int ns.length), .ow (.list []), .no, .no]) (rs := [.d (intsT ns)]) (ds := [intsT ns]) (items := enumD 0 (ns.map .int)) rfl rfl rfl rfl
  have e4 : xec cx (.for (.t [5, 6]) .enum (.cons (.v 0) .nil) (movedBody p q)) [.fz (intsT ns), .fz (.int 0), .fz (.int t), .fz (.int ns.length), .ow (.list []), .no, .no] = .nx [.fz (intsT ns), .fz (.int 0), .fz (.int t), .fz (.int ns.length), .ow (.list (rows.map pairD)), s5, s6] := e3.trans hl
  have e5 : ev cx (.bi .sorted (.cons (.v 4) .nil)) [.fz (intsT ns), .fz (.int 0), .fz (.int t), .fz (.int ns.length), .ow (.list (rows.map pairD)), s5, s6] = .ok (.f (.list ((target (lineAt ns t)).map pairD)), [.fz (intsT ns), .fz (.int 0), .fz (.int t), .fz (.int ns.length), .ow (.list (rows.map pairD)), s5, s6]) := by
    refine ev_bi (rs := [.o 4]) (ds := [.list (rows.map pairD)]) rfl rfl ?_
    show (sorts (rows.map pairD)).bind (fun ys => some (Rv.f (.list ys))) = _
    rw [sorts_pairs _ (by omega), ← hrows, sort_rows]
    rfl
  have lc := lc_snd (cx := cx) (s0 := .fz (intsT ns)) (s1 := .fz (.int 0)) (s2 := .fz (.int t)) (s3 := .fz (.int ns.length)) (s4 := .ow (.list (rows.map pairD))) (target (lineAt ns t)) []
  have e6 := ev_lc (cx := cx) (own := [5, 6]) (elt := .v 6) (tg := .t [5, 6]) (w := .seq) (it := .cons (.bi .sorted (.cons (.v 4) .nil)) .nil) (ifs := .k (.bool true)) (ρ1 := [.fz (intsT ns), .fz (.int 0), .fz (.int t), .fz (.int ns.length), .ow (.list (rows.map pairD)), s5, s6]) (rs := [.f (.list ((target (lineAt ns t)).map pairD))]) (ds := [.list ((target (lineAt ns t)).map pairD)]) (items := (target (lineAt ns t)).map pairD) (ev_cons e5 rfl) rfl rfl (by rw [List.length_map]; omega) lc
  refine run_rt (ρ0 := [.fz (intsT ns), .fz (.int 0), .fz (.int t), .no, .no, .no, .no]) rfl ⟨[.fz (intsT ns), .fz (.int 0), .fz (.int t), .fz (.int ns.length), .ow (.list (rows.map pairD)), s5, s6], ?_⟩
  unfold movedC
  rw [xec_seq e1, xec_seq e2, xec_seq e4]
  rw [target_snd] at e6
  have e7 := ev_bi (b := .tuple) (rs := [.f (intsL (lineAt ns t))]) (ds := [intsL (lineAt ns t)]) (ev_cons e6 (b := .nil) rfl) rfl (z := .d (intsT (lineAt ns t))) rfl
  show (F.seq (lift (ev cx _ _) retF) _) = _
  rw [e7]
  rfl
end
end Iv
set_option maxRecDepth 100000
set_option maxHeartbeats 4000000
namespace Iv
open PySem PySem.Spec PyProof.Rows L2
def IsIntF (f : FI) : Prop := f.io = false ∧ ∀ i lo hi : Int, f.sem [.int i, .int lo, .int hi] = .ok (.bool (decide (lo ≤ i) && decide (i ≤ hi))) false
theorem isInt_ok {cx : Ctx} : IsIntF (f_is_integer cx) := ⟨rfl, fun i lo hi => sem_is_integer i lo hi⟩
section
variable {cx : Ctx}
theorem ddp_self : ∀ {l : List Int}, l.Nodup → ddp l = l
  | [], _ => rfl
  | x :: l, h => by
    obtain ⟨h1, h2⟩ := List.nodup_cons.mp h
    rw [ddp, if_neg h1, ddp_self h2]
theorem ev_andv {a b : C} {ρ ρ1 : Env} {k : Bool} (h : ev cx a ρ = .ok (.d (.bool k), ρ1)) : ev cx (.andv a b) ρ = if k = true then ev cx b ρ1 else .ok (.d (.bool false), ρ1) := by
  rw [ev, h, R.bd_ok]
  cases k <;> rfl
theorem ev_ort {a b : C} {ρ ρ1 : Env} {k : Bool} (h : ev cx a ρ = .ok (.d (.bool k), ρ1)) : ev cx (.ort a b) ρ = if k = true then .ok (.d (.bool true), ρ1) else ev cx b ρ1 := by
  rw [ev, h, R.bd_ok]
  cases k <;> rfl
theorem ev_nott {a : C} {ρ ρ1 : Env} {k : Bool} (h : ev cx a ρ = .ok (.d (.bool k), ρ1)) : ev cx (.nott a) ρ = .ok (.d (.bool (!k)), ρ1) := by
  rw [ev, h, R.bd_ok]
  rfl
theorem ev_ch {o o' : CmpOp} {a b c : C} {ρ ρ1 ρ2 ρ3 : Env} {x y z : Rv} {dx dy dz : D} {k : Bool} (h1 : ev cx a ρ = .ok (x, ρ1)) (h2 : ev cx b ρ1 = .ok (y, ρ2)) (h3 : read ρ2 x = some dx) (h4 : read ρ2 y = some dy) (h5 : cmpop o dx dy = some true) (h6 : ev cx c ρ2 = .ok (z, ρ3)) (h7 : read ρ3 y = some dy) (h8 : read ρ3 z = some dz) (h9 : cmpop o' dy dz = some k) :
    ev cx (.ch o o' a b c) ρ = .ok (.d (.bool k), ρ3) := by
  rw [ev, h1, R.bd_ok, h2, R.bd_ok, h3, got_some, h4, got_some, h5, got_some]
  show (ev cx c ρ2).bd _ = _
  rw [h6, R.bd_ok, h7, got_some, h8, got_some, h9, got_some]
def isLineC (i : Nat) : S := .seq (.ife (.ort (.nott (.tr (.bi .istup (.cons (.v 0) .nil)))) (.nott (.tr (.ch .LtE .LtE (.k (.int 2)) (.bi .len (.cons (.v 0) .nil)) (.k (.int 24)))))) (.seq (.ret (.k (.bool false))) .nil) .nil) (.seq (.ret (.andv (.bi .all (.cons (.lc [1] (.call i (.cons (.v 1) (.cons (.k (.int 0)) (.cons (.k (.int 99)) .nil)))) (.n 1) .seq (.cons (.v 0) .nil) (.k (.bool true))) .nil)) (.cmp .Eq (.bi .lenset (.cons (.v 0) .nil)) (.bi .len (.cons (.v 0) .nil))))) .nil)
def IsLineF (f : FI) : Prop := f.io = false ∧ ∀ ns : List Int, LineOk ns → f.sem [intsT ns] = .ok (.bool true) false
theorem lc_int {fi : FI} {i : Nat} (hi : cx.fs[i]? = some fi) (Hi : IsIntF fi) {s0 : Slot} (xs : List Int) (h : ∀ x ∈ xs, 0 ≤ x ∧ x ≤ 99) : ∀ acc : List D,
    lcGo (ev cx (.k (.bool true))) (ev cx (.call i (.cons (.v 1) (.cons (.k (.int 0)) (.cons (.k (.int 99)) .nil))))) (.n 1) [1] (xs.map .int) [s0, .no] acc = .ok (acc.reverse ++ xs.map (fun _ => .bool true), [s0, .no]) := by
  induction xs with
  | nil =>
    intro acc
    show R.ok (acc.reverse, _) = R.ok (acc.reverse ++ [], _)
    rw [List.append_nil]
  | cons x xs ih =>
    intro acc
    rw [List.map_cons]
    obtain ⟨x0, x1⟩ := h x List.mem_cons_self
    have e : ev cx (.call i (.cons (.v 1) (.cons (.k (.int 0)) (.cons (.k (.int 99)) .nil)))) [s0, .fz (.int x)] = .ok (.d (.bool true), [s0, .fz (.int x)]) := by
      rw [ev_call (rs := [.d (.int x), .d (.int 0), .d (.int 99)]) hi Hi.1 rfl rfl, Hi.2, decide_eq_true x0, decide_eq_true x1]
      rfl
    refine (lcGo_yes (ρ1 := [s0, .fz (.int x)]) (r := .d (.bool true)) (y := .d (.bool true)) (z := .bool true) rfl rfl rfl e rfl).trans ?_
    refine (ih (fun y hy => h y (List.mem_cons_of_mem _ hy)) (.bool true :: acc)).trans ?_
    rw [List.reverse_cons, List.map_cons, List.append_assoc]
    rfl
theorem boolsD_true : ∀ xs : List Int, boolsD (xs.map fun _ => PyData.bool true) = some (xs.map fun _ => true)
  | [] => rfl
  | x :: xs => by
    show (boolsD (xs.map fun _ => PyData.bool true)).map (true :: ·) = _
    rw [boolsD_true xs]
    rfl
theorem ev_len {i : Nat} {ρ : Env} {ns : List Int} (h : get ρ i = .fz (intsT ns)) : ev cx (.bi .len (.cons (.v i) .nil)) ρ = .ok (.d (.int ns.length), ρ) := by
  have e : ev cx (.v i) ρ = .ok (.d (intsT ns), ρ) := by rw [ev, h]
  have := ev_bi (b := .len) (ev_cons e (b := .nil) rfl) rfl (z := .d (.int (ns.map PyData.int).length)) rfl
  rw [List.length_map] at this
  exact this
theorem sem_isLine {fi : FI} {i : Nat} (hi : cx.fs[i]? = some fi) (Hi : IsIntF fi) {ns : List Int} (h : LineOk ns) : run cx 2 false (isLineC i) [intsT ns] = .ok (.bool true) false := by
  have t1 : ev cx (.tr (.ch .LtE .LtE (.k (.int 2)) (.bi .len (.cons (.v 0) .nil)) (.k (.int 24)))) [.fz (intsT ns), .no] = .ok (.d (.bool true), [.fz (intsT ns), .no]) :=
    ev_tr (ev_ch rfl (ev_len rfl) rfl rfl (by show some (decide _) = _; rw [decide_eq_true]; have := h.lo; omega) rfl rfl rfl (by show some (decide _) = _; rw [decide_eq_true]; have := h.hi; omega))
  have t2 : ev cx (.ort (.nott (.tr (.bi .istup (.cons (.v 0) .nil)))) (.nott (.tr (.ch .LtE .LtE (.k (.int 2)) (.bi .len (.cons (.v 0) .nil)) (.k (.int 24)))))) [.fz (intsT ns), .no] = .ok (.d (.bool false), [.fz (intsT ns), .no]) := by
    rw [ev_ort (k := false) (ρ1 := [.fz (intsT ns), .no]) rfl, if_neg (by decide), ev_nott t1]
    rfl
  have hb : (big : Nat) = 10000000 := rfl
  have e1 := ev_lc (cx := cx) (own := [1]) (elt := .call i (.cons (.v 1) (.cons (.k (.int 0)) (.cons (.k (.int 99)) .nil)))) (tg := .n 1) (w := .seq) (it := .cons (.v 0) .nil) (ifs := .k (.bool true)) (ρ := [.fz (intsT ns), .no]) (ρ1 := [.fz (intsT ns), .no]) (rs := [.d (intsT ns)]) (ds := [intsT ns]) (items := ns.map .int) rfl rfl rfl (by rw [List.length_map]; have := h.hi; omega) (lc_int hi Hi (s0 := .fz (intsT ns)) ns h.rg [])
  have e2 : ev cx (.bi .all (.cons (.lc [1] (.call i (.cons (.v 1) (.cons (.k (.int 0)) (.cons (.k (.int 99)) .nil)))) (.n 1) .seq (.cons (.v 0) .nil) (.k (.bool true))) .nil)) [.fz (intsT ns), .no] = .ok (.d (.bool true), [.fz (intsT ns), .no]) := by
    refine ev_bi (rs := [.f (.list (ns.map fun _ => .bool true))]) (ds := [.list (ns.map fun _ => .bool true)]) (ev_cons e1 (b := .nil) rfl) rfl ?_
    show (boolsD (ns.map fun _ => PyData.bool true)).bind (fun bs => some (Rv.d (.bool (bs.all id)))) = _
    rw [boolsD_true]
    show some (Rv.d (.bool ((ns.map fun _ => true).all id))) = _
    congr 3
    simp
  have e3 : ev cx (.bi .lenset (.cons (.v 0) .nil)) [.fz (intsT ns), .no] = .ok (.d (.int ns.length), [.fz (intsT ns), .no]) := by
    refine ev_bi (rs := [.d (intsT ns)]) (ds := [intsT ns]) rfl rfl ?_
    show (intsD (ns.map .int)).bind (fun ns => if ns.length ≤ 4000 then some (Rv.d (.int ((ddp ns).length : Nat))) else none) = _
    rw [intsD_map]
    show (if ns.length ≤ 4000 then some (Rv.d (.int ((ddp ns).length : Nat))) else none) = _
    rw [if_pos (by have := h.hi; omega), ddp_self h.nd]
  have e4 : ev cx (.cmp .Eq (.bi .lenset (.cons (.v 0) .nil)) (.bi .len (.cons (.v 0) .nil))) [.fz (intsT ns), .no] = .ok (.d (.bool true), [.fz (intsT ns), .no]) := by
    refine ev_cmp e3 (ev_len rfl) rfl rfl ?_
    show (if SeqAt.shaped (.int (ns.length : Nat)) = true ∧ SeqAt.shaped (.int (ns.length : Nat)) = true then some (PyData.eqv (.int (ns.length : Nat)) (.int (ns.length : Nat))) else none) = _
    rw [if_pos ⟨rfl, rfl⟩]
    congr 1
    exact decide_eq_true rfl
  refine run_rt (ρ0 := [.fz (intsT ns), .no]) rfl ⟨[.fz (intsT ns), .no], ?_⟩
  unfold isLineC
  rw [xec_seq ((xec_if t2).trans (if_neg (by decide)))]
  show (F.seq (lift (ev cx _ _) retF) _) = _
  rw [ev_andv e2, if_pos rfl, e4]
  rfl
end
end Iv
set_option maxRecDepth 100000
set_option maxHeartbeats 4000000
namespace Iv
open PySem PySem.Spec PyProof.Rows L2
section
variable {cx : Ctx}
def ReqF (f : FI) : Prop := f.io = false ∧ ∀ ns : List Int, LineOk ns → f.sem [intsT ns] = .ok .none false
def ReqNF (f : FI) : Prop := f.io = false ∧ ∀ i lo hi : Int, lo ≤ i → i ≤ hi → f.sem [.int i, .int lo, .int hi] = .ok .none false
def reqC (i : Nat) : S := .seq (.ife (.nott (.tr (.call i (.cons (.v 0) .nil)))) (.seq (.rse "InvalidLine") .nil) .nil) .nil
def reqNC (i : Nat) : S := .seq (.ife (.nott (.tr (.call i (.cons (.v 0) (.cons (.v 1) (.cons (.v 2) .nil)))))) (.seq (.rse "InvalidNumber") .nil) .nil) .nil
theorem sem_req {f : FI} {i : Nat} (hi : cx.fs[i]? = some f) (Hi : IsLineF f) {ns : List Int} (h : LineOk ns) : run cx 1 false (reqC i) [intsT ns] = .ok .none false := by
  refine run_nx (ρ0 := [.fz (intsT ns)]) rfl ⟨[.fz (intsT ns)], ?_⟩
  have e : ev cx (.call i (.cons (.v 0) .nil)) [.fz (intsT ns)] = .ok (.d (.bool true), [.fz (intsT ns)]) := by
    rw [ev_call (rs := [.d (intsT ns)]) hi Hi.1 rfl rfl, Hi.2 ns h]
    rfl
  unfold reqC
  rw [xec_seq ((xec_if (ev_nott (ev_tr e))).trans (if_neg (by decide)))]
  rfl
theorem sem_reqN {f : FI} {i : Nat} (hi : cx.fs[i]? = some f) (Hi : IsIntF f) {n lo hi' : Int} (h1 : lo ≤ n) (h2 : n ≤ hi') : run cx 3 false (reqNC i) [.int n, .int lo, .int hi'] = .ok .none false := by
  refine run_nx (ρ0 := [.fz (.int n), .fz (.int lo), .fz (.int hi')]) rfl ⟨[.fz (.int n), .fz (.int lo), .fz (.int hi')], ?_⟩
  have e : ev cx (.call i (.cons (.v 0) (.cons (.v 1) (.cons (.v 2) .nil)))) [.fz (.int n), .fz (.int lo), .fz (.int hi')] = .ok (.d (.bool true), [.fz (.int n), .fz (.int lo), .fz (.int hi')]) := by
    rw [ev_call (rs := [.d (.int n), .d (.int lo), .d (.int hi')]) hi Hi.1 rfl rfl, Hi.2, decide_eq_true h1, decide_eq_true h2]
    rfl
  unfold reqNC
  rw [xec_seq ((xec_if (ev_nott (ev_tr e))).trans (if_neg (by decide)))]
  rfl
def LATEST : Int := 1000000000000
/-- the checks ahead, then the rest -/
theorem checks {fr fn : FI} {i j n : Nat} {rest : S} {s2 : List Slot} (hi : cx.fs[i]? = some fr) (Hi : ReqF fr) (hj : cx.fs[j]? = some fn) (Hj : ReqNF fn) {ns : List Int} {t : Int} (h : LineOk ns) (h0 : 0 ≤ t) (h1 : t ≤ LATEST) :
    xec cx (.seq (.exp (.call i (.cons (.v 0) .nil))) (.seq (.exp (.call j (.cons (.v 1) (.cons (.k (.int 0)) (.cons (.k (.int 1000000000000)) .nil))))) rest)) (.fz (intsT ns) :: .fz (.int t) :: s2) = xec cx rest (.fz (intsT ns) :: .fz (.int t) :: s2) := by
  have e1 : ev cx (.call i (.cons (.v 0) .nil)) (.fz (intsT ns) :: .fz (.int t) :: s2) = .ok (.d .none, .fz (intsT ns) :: .fz (.int t) :: s2) := by
    rw [ev_call (rs := [.d (intsT ns)]) hi Hi.1 rfl rfl, Hi.2 ns h]
    rfl
  have e2 : ev cx (.call j (.cons (.v 1) (.cons (.k (.int 0)) (.cons (.k (.int 1000000000000)) .nil)))) (.fz (intsT ns) :: .fz (.int t) :: s2) = .ok (.d .none, .fz (intsT ns) :: .fz (.int t) :: s2) := by
    rw [ev_call (rs := [.d (.int t), .d (.int 0), .d (.int 1000000000000)]) hj Hj.1 rfl rfl, Hj.2 t 0 1000000000000 h0 h1]
    rfl
  rw [xec_seq (ρ1 := .fz (intsT ns) :: .fz (.int t) :: s2) (by rw [xec, e1]; rfl), xec_seq (ρ1 := .fz (intsT ns) :: .fz (.int t) :: s2) (by rw [xec, e2]; rfl)]
def chk (i j : Nat) (rest : S) : S := .seq (.exp (.call i (.cons (.v 0) .nil))) (.seq (.exp (.call j (.cons (.v 1) (.cons (.k (.int 0)) (.cons (.k (.int 1000000000000)) .nil))))) rest)
def lineAfterC (i j m : Nat) : S := chk i j (.seq (.ret (.call m (.cons (.v 0) (.cons (.k (.int 0)) (.cons (.v 1) .nil))))) .nil)
def AfterF (f : FI) : Prop := f.io = false ∧ ∀ (ns : List Int) (t : Nat), LineOk ns → (t : Int) ≤ LATEST → f.sem [intsT ns, .int t] = .ok (intsT (lineAt ns t)) false
theorem ev_moved {f : FI} {m : Nat} (hm : cx.fs[m]? = some f) (Hm : MovedF f) {ns : List Int} {t : Nat} {s2 : List Slot} (h : LineOk ns) : ev cx (.call m (.cons (.v 0) (.cons (.k (.int 0)) (.cons (.v 1) .nil)))) (.fz (intsT ns) :: .fz (.int t) :: s2) = .ok (.d (intsT (lineAt ns t)), .fz (intsT ns) :: .fz (.int t) :: s2) := by
  rw [ev_call (rs := [.d (intsT ns), .d (.int 0), .d (.int t)]) hm Hm.1 rfl rfl, Hm.2 ns t (by have := h.lo; omega) (by have := h.hi; omega)]
  rfl
theorem sem_after {fr fn fm : FI} {i j m : Nat} (hi : cx.fs[i]? = some fr) (Hi : ReqF fr) (hj : cx.fs[j]? = some fn) (Hj : ReqNF fn) (hm : cx.fs[m]? = some fm) (Hm : MovedF fm) (ns : List Int) (t : Nat) (h : LineOk ns) (h1 : (t : Int) ≤ LATEST) : run cx 2 false (lineAfterC i j m) [intsT ns, .int t] = .ok (intsT (lineAt ns t)) false := by
  refine run_rt (ρ0 := [.fz (intsT ns), .fz (.int t)]) rfl ⟨[.fz (intsT ns), .fz (.int t)], ?_⟩
  unfold lineAfterC chk
  rw [checks (n := 0) hi Hi hj Hj h (by omega) h1]
  show (F.seq (lift (ev cx _ _) retF) _) = _
  rw [ev_moved hm Hm h]
  rfl

/-! ### pairs_now -/
/-- the pairs of round t: the places t % 2, t % 2 + 2, .. -/
def nPairs (n t : Nat) : Nat := (n - t % 2) / 2
def pairsL (L : List Int) (t : Nat) : List (Int × Int) := (List.range (nPairs L.length t)).map fun (j : Nat) => (L.getD (t % 2 + 2 * j) 0, L.getD (t % 2 + 2 * j + 1) 0)
theorem stepN_pairs {n t : Nat} (hn : 2 ≤ n) : stepN ((t % 2 : Nat) : Int) ((n : Int) - 1) 2 = nPairs n t := by
  unfold stepN nPairs
  split <;> omega
theorem rangeC_eq {n t : Nat} (hn : 2 ≤ n) : rangeC ((t % 2 : Nat) : Int) 2 (stepN ((t % 2 : Nat) : Int) ((n : Int) - 1) 2) = (List.range (nPairs n t)).map fun (j : Nat) => .int ((t % 2 + 2 * j : Nat) : Int) := by
  rw [stepN_pairs hn]
  unfold rangeC
  apply List.map_congr_left
  intro j _
  congr 1
  omega
theorem cut2 {L : List Int} {p : Nat} (h : p + 1 < L.length) : cutD (L.map .int) (some (p : Int)) (some ((p : Int) + 2)) = [.int (L.getD p 0), .int (L.getD (p + 1) 0)] := by
  unfold cutD
  rw [List.length_map, HT.sIx_nat, show ((p : Int) + 2) = ((p + 2 : Nat) : Int) by omega, HT.sIx_nat, Nat.min_eq_left (by omega), Nat.min_eq_left (by omega), show p + 2 - p = 2 by omega]
  have e : (L.map PyData.int).drop p = .int (L.getD p 0) :: .int (L.getD (p + 1) 0) :: (L.map .int).drop (p + 1 + 1) := by
    rw [List.drop_eq_getElem_cons (by rw [List.length_map]; omega), List.drop_eq_getElem_cons (by rw [List.length_map]; omega)]
    simp [show p < L.length by omega, h]
  rw [e]
  rfl
abbrev pairElt : C := .sl (.v 0) (.pt (.v 2)) (.pt (.op .Add (.v 2) (.k (.int 2))))
def pairsNowC : S := .seq (.ret (.lc [2] pairElt (.n 2) .r3 (.cons (.op .Mod (.v 1) (.k (.int 2))) (.cons (.op .Sub (.bi .len (.cons (.v 0) .nil)) (.k (.int 1))) (.cons (.k (.int 2)) .nil))) (.k (.bool true)))) .nil
def PairsNowF (f : FI) : Prop := f.io = false ∧ ∀ (L : List Int) (t : Nat), 2 ≤ L.length → L.length ≤ 1000 → f.sem [intsT L, .int t] = .ok (.list ((pairsL L t).map pairD)) true
theorem lc_pairs {L : List Int} {s1 : Slot} (js : List Nat) (t : Nat) (h : ∀ j ∈ js, t % 2 + 2 * j + 1 < L.length) : ∀ acc : List D,
    lcGo (ev cx (.k (.bool true))) (ev cx pairElt) (.n 2) [2] (js.map fun (j : Nat) => .int ((t % 2 + 2 * j : Nat) : Int)) [.fz (intsT L), s1, .no] acc = .ok (acc.reverse ++ js.map (fun (j : Nat) => pairD (L.getD (t % 2 + 2 * j) 0, L.getD (t % 2 + 2 * j + 1) 0)), [.fz (intsT L), s1, .no]) := by
  induction js with
  | nil =>
    intro acc
    show R.ok (acc.reverse, _) = R.ok (acc.reverse ++ [], _)
    rw [List.append_nil]
  | cons j js ih =>
    intro acc
    rw [List.map_cons]
    generalize hp : t % 2 + 2 * j = p
    have hlt : p + 1 < L.length := hp ▸ h j List.mem_cons_self
    have e : ev cx pairElt [.fz (intsT L), s1, .fz (.int (p : Int))] = .ok (.d (pairD (L.getD p 0, L.getD (p + 1) 0)), [.fz (intsT L), s1, .fz (.int (p : Int))]) := by
      have e0 : ev cx pairElt [.fz (intsT L), s1, .fz (.int (p : Int))] = .ok (.d (.tuple (cutD (L.map .int) (some (p : Int)) (some ((p : Int) + 2)))), [.fz (intsT L), s1, .fz (.int (p : Int))]) := rfl
      rw [e0, cut2 hlt]
      rfl
    refine (lcGo_yes (ρ1 := [.fz (intsT L), s1, .fz (.int (p : Int))]) (r := .d (.bool true)) rfl rfl rfl e rfl).trans ?_
    refine (ih (fun k hk => h k (List.mem_cons_of_mem _ hk)) _).trans ?_
    rw [List.reverse_cons, List.map_cons, List.append_assoc, hp]
    rfl
theorem ev_mod2 {ρ : Env} {t : Nat} {i : Nat} (h : get ρ i = .fz (.int t)) : ev cx (.op .Mod (.v i) (.k (.int 2))) ρ = .ok (.d (.int ((t % 2 : Nat) : Int)), ρ) := by
  have e : ev cx (.v i) ρ = .ok (.d (.int t), ρ) := by rw [ev, h]
  have := ev_op (o := .Mod) (cx := cx) (b := .k (.int 2)) e rfl rfl rfl (b_mod (i := t) (j := 2) (by decide))
  rw [this]
  rfl
theorem sem_pairsNow (L : List Int) (t : Nat) (h2 : 2 ≤ L.length) (h3 : L.length ≤ 1000) : run cx 3 false pairsNowC [intsT L, .int t] = .ok (.list ((pairsL L t).map pairD)) true := by
  have hb : (big : Nat) = 10000000 := rfl
  have e0 : ev cx (.cons (.op .Mod (.v 1) (.k (.int 2))) (.cons (.op .Sub (.bi .len (.cons (.v 0) .nil)) (.k (.int 1))) (.cons (.k (.int 2)) .nil))) [.fz (intsT L), .fz (.int t), .no] = .ok (.l [.d (.int ((t % 2 : Nat) : Int)), .d (.int ((L.length : Int) - 1)), .d (.int 2)], [.fz (intsT L), .fz (.int t), .no]) :=
    ev_cons (ev_mod2 rfl) (ev_cons (ev_op (ev_len rfl) rfl rfl rfl rfl) rfl)
  have w := walked3 (a := ((t % 2 : Nat) : Int)) (b := (L.length : Int) - 1) (c := 2) (by omega) (by omega) (by omega) (by omega) (by omega)
  rw [rangeC_eq h2] at w
  have hj : ∀ j ∈ List.range (nPairs L.length t), t % 2 + 2 * j + 1 < L.length := fun j hj => by
    have := List.mem_range.mp hj
    unfold nPairs at this
    omega
  have hnp : nPairs L.length t ≤ 1000 := by unfold nPairs; omega
  have e1 := ev_lc (cx := cx) (own := [2]) (elt := pairElt) (tg := .n 2) (w := .r3) (ifs := .k (.bool true)) e0 rfl w (by rw [List.length_map, List.length_range]; omega) (lc_pairs (s1 := .fz (.int t)) (List.range (nPairs L.length t)) t hj [])
  refine run_rt (ρ0 := [.fz (intsT L), .fz (.int t), .no]) rfl ⟨[.fz (intsT L), .fz (.int t), .no], ?_⟩
  unfold pairsNowC
  show (F.seq (lift (ev cx _ _) retF) _) = _
  rw [e1]
  unfold pairsL
  rw [List.map_map]
  rfl
def pairsInC (i j m p : Nat) : S := chk i j (.seq (.ret (.call p (.cons (.call m (.cons (.v 0) (.cons (.k (.int 0)) (.cons (.v 1) .nil)))) (.cons (.v 1) .nil)))) .nil)
def PairsInF (f : FI) : Prop := f.io = false ∧ ∀ (ns : List Int) (t : Nat), LineOk ns → (t : Int) ≤ LATEST → f.sem [intsT ns, .int t] = .ok (.list ((pairsL (lineAt ns t) t).map pairD)) true
theorem sem_pairsIn {fr fn fm fp : FI} {i j m p : Nat} (hi : cx.fs[i]? = some fr) (Hi : ReqF fr) (hj : cx.fs[j]? = some fn) (Hj : ReqNF fn) (hm : cx.fs[m]? = some fm) (Hm : MovedF fm) (hp : cx.fs[p]? = some fp) (Hp : PairsNowF fp) (ns : List Int) (t : Nat) (h : LineOk ns) (h1 : (t : Int) ≤ LATEST) :
    run cx 2 false (pairsInC i j m p) [intsT ns, .int t] = .ok (.list ((pairsL (lineAt ns t) t).map pairD)) true := by
  refine run_rt (ρ0 := [.fz (intsT ns), .fz (.int t)]) rfl ⟨[.fz (intsT ns), .fz (.int t)], ?_⟩
  unfold pairsInC chk
  rw [checks (n := 0) hi Hi hj Hj h (by omega) h1]
  have e : ev cx (.call p (.cons (.call m (.cons (.v 0) (.cons (.k (.int 0)) (.cons (.v 1) .nil)))) (.cons (.v 1) .nil))) [.fz (intsT ns), .fz (.int t)] = .ok (.f (.list ((pairsL (lineAt ns t) t).map pairD)), [.fz (intsT ns), .fz (.int t)]) := by
    rw [ev_call (rs := [.d (intsT (lineAt ns t)), .d (.int t)]) hp Hp.1 (ev_cons (ev_moved hm Hm h) (b := .cons (.v 1) .nil) rfl) rfl, Hp.2 _ t (by rw [lineAt_len]; exact h.lo) (by rw [lineAt_len]; have := h.hi; omega)]
    rfl
  show (F.seq (lift (ev cx _ _) retF) _) = _
  rw [e]
  rfl
end
end Iv
set_option maxRecDepth 100000
set_option maxHeartbeats 4000000
namespace Iv
open PySem PySem.Spec PyProof.Rows L2
section
variable {cx : Ctx}
def waitL (L : List Int) (t : Nat) : List Int := (if t % 2 = 1 then [L.getD 0 0] else []) ++ (if (L.length + t) % 2 = 1 then [L.getD (L.length - 1) 0] else [])
abbrev wn1 : C := .ife (.tr (.cmp .Eq (.op .Mod (.v 1) (.k (.int 2))) (.k (.int 1)))) (.sl (.v 0) (.k .none) (.pt (.k (.int 1)))) (.tup .nil)
abbrev wn2 : C := .ife (.tr (.cmp .Eq (.op .Mod (.op .Sub (.bi .len (.cons (.v 0) .nil)) (.v 1)) (.k (.int 2))) (.k (.int 1)))) (.sl (.v 0) (.pt (.neg (.k (.int 1)))) (.k .none)) (.tup .nil)
def waitNowC : S := .seq (.asg 2 wn1) (.seq (.asg 3 wn2) (.seq (.ret (.op .Add (.v 2) (.v 3))) .nil))
def WaitNowF (f : FI) : Prop := f.io = false ∧ ∀ (L : List Int) (t : Nat), 2 ≤ L.length → L.length ≤ 1000 → f.sem [intsT L, .int t] = .ok (intsT (waitL L t)) false
theorem cut_first {L : List Int} (h : 0 < L.length) : cutD (L.map .int) none (some 1) = [L.getD 0 0].map .int := by
  cases L with
  | nil => simp at h
  | cons x L =>
    unfold cutD
    rw [List.length_map, HT.sIx_none, show (1 : Int) = ((1 : Nat) : Int) from rfl, HT.sIx_nat]
    simp
theorem cut_last {L : List Int} (h : 0 < L.length) : cutD (L.map .int) (some (-1)) none = [L.getD (L.length - 1) 0].map .int := by
  unfold cutD
  rw [List.length_map, HT.sIx_none]
  have e : HT.sIx L.length 0 (some (-1)) = L.length - 1 := by
    show (if (-1 : Int) < 0 then (-1 + (L.length : Int)).toNat else min (-1 : Int).toNat L.length) = _
    rw [if_pos (by decide)]
    omega
  rw [e, List.drop_eq_getElem_cons (by rw [List.length_map]; omega), List.drop_eq_nil_of_le (by rw [List.length_map]; omega)]
  rw [show L.length - (L.length - 1) = 1 by omega]
  simp [show L.length - 1 < L.length by omega]
theorem eqI (a b : Int) : cmpop .Eq (.int a) (.int b) = some (decide (a = b)) := by
  show (if SeqAt.shaped (.int a) = true ∧ SeqAt.shaped (.int b) = true then some (PyData.eqv (.int a) (.int b)) else none) = _
  rw [if_pos ⟨rfl, rfl⟩]
  congr 1
theorem ev_wn1 {L : List Int} {t : Nat} {s2 s3 : Slot} (h : 2 ≤ L.length) : ev cx wn1 [.fz (intsT L), .fz (.int t), s2, s3] = .ok (.d (intsT (if t % 2 = 1 then [L.getD 0 0] else [])), [.fz (intsT L), .fz (.int t), s2, s3]) := by
  rw [ev_ife (ev_tr (ev_cmp (ev_mod2 rfl) rfl rfl rfl (eqI _ _)))]
  by_cases h1 : t % 2 = 1
  · rw [if_pos (decide_eq_true (by omega)), if_pos h1]
    have e0 : ev cx (.sl (.v 0) (.k .none) (.pt (.k (.int 1)))) [.fz (intsT L), .fz (.int t), s2, s3] = .ok (.d (.tuple (cutD (L.map .int) none (some 1))), [.fz (intsT L), .fz (.int t), s2, s3]) := rfl
    rw [e0, cut_first (by omega)]
    rfl
  · rw [if_neg (by rw [decide_eq_true_eq]; omega), if_neg h1]
    rfl
theorem ev_wn2 {L : List Int} {t : Nat} {s2 s3 : Slot} (h : 2 ≤ L.length) : ev cx wn2 [.fz (intsT L), .fz (.int t), s2, s3] = .ok (.d (intsT (if (L.length + t) % 2 = 1 then [L.getD (L.length - 1) 0] else [])), [.fz (intsT L), .fz (.int t), s2, s3]) := by
  have m : ev cx (.op .Mod (.op .Sub (.bi .len (.cons (.v 0) .nil)) (.v 1)) (.k (.int 2))) [.fz (intsT L), .fz (.int t), s2, s3] = .ok (.d (.int (((L.length : Int) - t) % 2)), [.fz (intsT L), .fz (.int t), s2, s3]) := ev_op (ev_op (ev_len rfl) rfl rfl rfl rfl) rfl rfl rfl (b_mod (by decide))
  rw [ev_ife (ev_tr (ev_cmp m rfl rfl rfl (eqI _ _)))]
  by_cases h1 : (L.length + t) % 2 = 1
  · rw [if_pos (decide_eq_true (by omega)), if_pos h1]
    have e0 : ev cx (.sl (.v 0) (.pt (.neg (.k (.int 1)))) (.k .none)) [.fz (intsT L), .fz (.int t), s2, s3] = .ok (.d (.tuple (cutD (L.map .int) (some (-1)) none)), [.fz (intsT L), .fz (.int t), s2, s3]) := rfl
    rw [e0, cut_last (by omega)]
    rfl
  · rw [if_neg (by rw [decide_eq_true_eq]; omega), if_neg h1]
    rfl
theorem waitL_len {L : List Int} {t : Nat} : (waitL L t).length ≤ 2 := by
  unfold waitL
  rw [List.length_append]
  split <;> split <;> simp
theorem sem_waitNow (L : List Int) (t : Nat) (h : 2 ≤ L.length) : run cx 4 false waitNowC [intsT L, .int t] = .ok (intsT (waitL L t)) false := by
  refine run_rt (ρ0 := [.fz (intsT L), .fz (.int t), .no, .no]) rfl ⟨[.fz (intsT L), .fz (.int t), .fz (intsT (if t % 2 = 1 then [L.getD 0 0] else [])), .fz (intsT (if (L.length + t) % 2 = 1 then [L.getD (L.length - 1) 0] else []))], ?_⟩
  · unfold waitNowC
    rw [xec_seq (ρ1 := [.fz (intsT L), .fz (.int t), .fz (intsT (if t % 2 = 1 then [L.getD 0 0] else [])), .no]) (xec_asg (ev_wn1 h) rfl), xec_seq (ρ1 := [.fz (intsT L), .fz (.int t), .fz (intsT (if t % 2 = 1 then [L.getD 0 0] else [])), .fz (intsT (if (L.length + t) % 2 = 1 then [L.getD (L.length - 1) 0] else []))]) (xec_asg (ev_wn2 h) rfl)]
    have e : binop .Add (intsT (if t % 2 = 1 then [L.getD 0 0] else [])) (intsT (if (L.length + t) % 2 = 1 then [L.getD (L.length - 1) 0] else [])) = some (.d (intsT (waitL L t))) := by
      unfold intsT
      show (if _ then _ else none) = _
      rw [if_pos, waitL, List.map_append]
      rw [List.length_map, List.length_map]
      split <;> split <;> (simp only [List.length_cons, List.length_nil]; decide)
    have e2 := ev_op (cx := cx) (o := .Add) (a := .v 2) (b := .v 3) (ρ := [.fz (intsT L), .fz (.int t), .fz (intsT (if t % 2 = 1 then [L.getD 0 0] else [])), .fz (intsT (if (L.length + t) % 2 = 1 then [L.getD (L.length - 1) 0] else []))]) rfl rfl rfl rfl e
    show (F.seq (lift (ev cx (.op .Add (.v 2) (.v 3)) [.fz (intsT L), .fz (.int t), .fz (intsT (if t % 2 = 1 then [L.getD 0 0] else [])), .fz (intsT (if (L.length + t) % 2 = 1 then [L.getD (L.length - 1) 0] else []))]) retF) _) = _
    rw [e2]
    rfl
def waitC (i j m p : Nat) : S := chk i j (.seq (.ret (.bi .sorted (.cons (.call p (.cons (.call m (.cons (.v 0) (.cons (.k (.int 0)) (.cons (.v 1) .nil)))) (.cons (.v 1) .nil))) .nil))) .nil)
def WaitF (f : FI) : Prop := f.io = false ∧ ∀ (ns : List Int) (t : Nat), LineOk ns → (t : Int) ≤ LATEST → f.sem [intsT ns, .int t] = .ok (.list (sortD ((waitL (lineAt ns t) t).map .int))) true
theorem sem_wait {fr fn fm fp : FI} {i j m p : Nat} (hi : cx.fs[i]? = some fr) (Hi : ReqF fr) (hj : cx.fs[j]? = some fn) (Hj : ReqNF fn) (hm : cx.fs[m]? = some fm) (Hm : MovedF fm) (hp : cx.fs[p]? = some fp) (Hp : WaitNowF fp) (ns : List Int) (t : Nat) (h : LineOk ns) (h1 : (t : Int) ≤ LATEST) :
    run cx 2 false (waitC i j m p) [intsT ns, .int t] = .ok (.list (sortD ((waitL (lineAt ns t) t).map .int))) true := by
  refine run_rt (ρ0 := [.fz (intsT ns), .fz (.int t)]) rfl ⟨[.fz (intsT ns), .fz (.int t)], ?_⟩
  unfold waitC chk
  rw [checks (n := 0) hi Hi hj Hj h (by omega) h1]
  have e : ev cx (.call p (.cons (.call m (.cons (.v 0) (.cons (.k (.int 0)) (.cons (.v 1) .nil)))) (.cons (.v 1) .nil))) [.fz (intsT ns), .fz (.int t)] = .ok (.d (intsT (waitL (lineAt ns t) t)), [.fz (intsT ns), .fz (.int t)]) := by
    rw [ev_call (rs := [.d (intsT (lineAt ns t)), .d (.int t)]) hp Hp.1 (ev_cons (ev_moved hm Hm h) (b := .cons (.v 1) .nil) rfl) rfl, Hp.2 _ t (by rw [lineAt_len]; exact h.lo) (by rw [lineAt_len]; have := h.hi; omega)]
    rfl
  have hs := sorts_ints (waitL (lineAt ns t) t) (by have := waitL_len (L := lineAt ns t) (t := t); have hb : (big : Nat) = 10000000 := rfl; omega)
  have e2 := ev_bi (b := .sorted) (rs := [.d (intsT (waitL (lineAt ns t) t))]) (ds := [intsT (waitL (lineAt ns t) t)]) (ev_cons e (b := .nil) rfl) rfl (z := .f (.list (sortD ((waitL (lineAt ns t) t).map .int)))) (by
    show (sorts ((waitL (lineAt ns t) t).map .int)).bind (fun ys => some (Rv.f (.list ys))) = _
    rw [hs]
    rfl)
  show (F.seq (lift (ev cx _ _) retF) _) = _
  rw [e2]
  rfl
end
end Iv
set_option maxRecDepth 100000
set_option maxHeartbeats 4000000
namespace Iv
open PySem PySem.Spec PyProof.Rows L2
/-! ### the rows while the pairs are swapped -/
theorem idxOf_eq {x : Int} : ∀ {R : List Int} {p : Nat}, R[p]? = some x → (∀ i, i < p → R[i]? ≠ some x) → R.idxOf x = p
  | [], p, h, _ => by simp at h
  | y :: R, 0, h, _ => by
    simp at h
    subst h
    simp
  | y :: R, p + 1, h, hn => by
    have h0 : y ≠ x := fun e => hn 0 (by omega) (by rw [e]; rfl)
    have ih := idxOf_eq (R := R) (p := p) (by simpa using h) fun i hi => by
      have := hn (i + 1) (by omega)
      simpa using this
    have hb : (y == x) = false := by simpa using h0
    rw [List.idxOf_cons, hb, ih]
    rfl
/-- the first places swapped -/
def tau (n t b q : Nat) : Nat := if q < b then sg n t q else q
def rowsJ (L : List Int) (t b : Nat) : List Int := (List.range L.length).map fun q => L.getD (tau L.length t b q) 0
theorem rowsJ_len {L : List Int} {t b : Nat} : (rowsJ L t b).length = L.length := by simp [rowsJ]
theorem rowsJ_get {L : List Int} {t b q : Nat} (h : q < L.length) : (rowsJ L t b)[q]? = some (L.getD (tau L.length t b q) 0) := by
  unfold rowsJ
  rw [List.getElem?_map, List.getElem?_range h]
  rfl
theorem getD_inj {L : List Int} (nd : L.Nodup) {i j : Nat} (hi : i < L.length) (hj : j < L.length) (h : L.getD i 0 = L.getD j 0) : i = j := by
  have e1 : L.getD i 0 = L[i] := by simp [hi]
  have e2 : L.getD j 0 = L[j] := by simp [hj]
  rw [e1, e2] at h
  exact (List.getElem_inj nd).mp h
theorem tau_lt {n t b q : Nat} (hb : (b + t) % 2 = 0) (hbn : b < n) (h : q < b) : tau n t b q < b := by
  unfold tau sg
  rw [if_pos h]
  split
  · split <;> omega
  · omega
theorem rowsJ_idx {L : List Int} (nd : L.Nodup) {t b : Nat} (hb : (b + t) % 2 = 0) (h : b < L.length) : (rowsJ L t b).idxOf (L.getD b 0) = b := by
  refine idxOf_eq ?_ fun i hi => ?_
  · rw [rowsJ_get h]
    unfold tau
    rw [if_neg (Nat.lt_irrefl _)]
  · rw [rowsJ_get (by omega)]
    intro e
    have e := Option.some.inj e
    have l := tau_lt hb h hi
    exact absurd (getD_inj nd (by omega) h e) (by omega)
theorem rowsJ_mem {L : List Int} {t b : Nat} (h : b < L.length) : L.getD b 0 ∈ rowsJ L t b := by
  refine List.mem_of_getElem? (i := b) ?_
  rw [rowsJ_get h]
  unfold tau
  rw [if_neg (Nat.lt_irrefl _)]
theorem rowsJ_step {L : List Int} {t b : Nat} (hb : (b + t) % 2 = 0) (h : b + 1 < L.length) : ((rowsJ L t b).set b (L.getD (b + 1) 0)).set (b + 1) (L.getD b 0) = rowsJ L t (b + 2) := by
  apply List.ext_getElem?
  intro q
  by_cases hq : q < L.length
  · rw [rowsJ_get hq, List.getElem?_set, List.getElem?_set, rowsJ_get hq]
    simp only [List.length_set, rowsJ_len]
    by_cases h1 : b + 1 = q
    · subst h1
      rw [if_pos rfl, if_pos h]
      unfold tau sg
      rw [if_pos (by omega), if_neg (by omega)]
      rfl
    · rw [if_neg h1]
      by_cases h2 : b = q
      · subst h2
        rw [if_pos rfl, if_pos hq]
        unfold tau sg
        rw [if_pos (by omega), if_pos hb, if_pos h]
      · rw [if_neg h2]
        unfold tau
        by_cases h3 : q < b
        · rw [if_pos h3, if_pos (by omega)]
        · rw [if_neg h3, if_neg (by omega)]
  · rw [List.getElem?_eq_none (by rw [List.length_set, List.length_set, rowsJ_len]; omega), List.getElem?_eq_none (by rw [rowsJ_len]; omega)]
theorem rowsJ_start {L : List Int} {t : Nat} : rowsJ L t (t % 2) = L := by
  have e : ∀ q, q < L.length → tau L.length t (t % 2) q = q := fun q hq => by
    unfold tau sg
    split
    · rw [if_neg (by omega)]
      omega
    · rfl
  unfold rowsJ
  rw [List.map_congr_left fun q hq => by rw [e q (List.mem_range.mp hq)]]
  exact getD_map
theorem rowsJ_end {L : List Int} {t : Nat} (h2 : 2 ≤ L.length) : rowsJ L t (t % 2 + 2 * nPairs L.length t) = stepL L t := by
  unfold rowsJ stepL
  apply List.map_congr_left
  intro q hq
  have hq := List.mem_range.mp hq
  congr 1
  unfold tau
  split
  · rfl
  · rename_i h
    unfold nPairs at h
    unfold sg
    split
    · rw [if_neg (by omega)]
    · omega
section
variable {cx : Ctx}
theorem ix_int {L : List Int} {p : Nat} (h : p < L.length) : index (intsL L) (.int (p : Int)) = some (.d (.int (L.getD p 0))) := by
  show (L2.atI (L.map PyData.int) (p : Int)).map Rv.d = _
  have : L2.atI (L.map PyData.int) (p : Int) = some (.int (L.getD p 0)) := by
    unfold L2.atI
    rw [ixN_nat (by omega) (by rw [List.length_map]; omega)]
    simp [h]
  rw [this]
  rfl
abbrev dA : S := .seq (.app 3 (.tup (.cons (.ix (.v 2) (.v 4)) (.cons (.ix (.v 2) (.op .Add (.v 4) (.k (.int 1)))) .nil)))) .nil
/-- the pairs taken -/
theorem dA_step {L : List Int} {s0 s1 s5 s6 s7 s8 s9 : Slot} {p : Nat} {acc : List (Int × Int)} (h : p + 1 < L.length) (ha : acc.length < big) :
    xec cx dA [s0, s1, .ow (intsL L), .ow (.list (acc.map pairD)), .fz (.int (p : Int)), s5, s6, s7, s8, s9] = .nx [s0, s1, .ow (intsL L), .ow (.list ((acc ++ [(L.getD p 0, L.getD (p + 1) 0)]).map pairD)), .fz (.int (p : Int)), s5, s6, s7, s8, s9] := by
  have e1 : ev cx (.ix (.v 2) (.v 4)) [s0, s1, .ow (intsL L), .ow (.list (acc.map pairD)), .fz (.int (p : Int)), s5, s6, s7, s8, s9] = .ok (.d (.int (L.getD p 0)), [s0, s1, .ow (intsL L), .ow (.list (acc.map pairD)), .fz (.int (p : Int)), s5, s6, s7, s8, s9]) := by
    show (got (index (intsL L) (.int (p : Int))) fun z => R.ok (z, _)) = _
    rw [ix_int (by omega)]
    rfl
  have e2 : ev cx (.ix (.v 2) (.op .Add (.v 4) (.k (.int 1)))) [s0, s1, .ow (intsL L), .ow (.list (acc.map pairD)), .fz (.int (p : Int)), s5, s6, s7, s8, s9] = .ok (.d (.int (L.getD (p + 1) 0)), [s0, s1, .ow (intsL L), .ow (.list (acc.map pairD)), .fz (.int (p : Int)), s5, s6, s7, s8, s9]) := by
    show (got (index (intsL L) (.int ((p : Int) + 1))) fun z => R.ok (z, _)) = _
    rw [show ((p : Int) + 1) = ((p + 1 : Nat) : Int) by omega, ix_int h]
    rfl
  have e3 := ev_tup (ev_cons e1 (ev_cons e2 (b := .nil) rfl)) rfl (by show 2 ≤ big; decide)
  have e4 := xec_app (i := 3) (xs0 := acc.map pairD) rfl e3 rfl (xs := acc.map pairD) rfl (by rw [List.length_map]; exact ha)
  have e6 : (acc ++ [(L.getD p 0, L.getD (p + 1) 0)]).map pairD = acc.map pairD ++ [.tuple [.int (L.getD p 0), .int (L.getD (p + 1) 0)]] := List.map_append
  rw [xec_seq e4, e6]
  rfl
theorem dA_loop {L : List Int} {t : Nat} {s0 s1 s5 s6 s7 s8 s9 : Slot} (js : List Nat) : ∀ (acc : List (Int × Int)) (s4 : Slot), (∀ j ∈ js, t % 2 + 2 * j + 1 < L.length) → acc.length + js.length < big → ∃ s4',
    forGo (xec cx dA) (.n 4) (js.map fun (j : Nat) => .int ((t % 2 + 2 * j : Nat) : Int)) [s0, s1, .ow (intsL L), .ow (.list (acc.map pairD)), s4, s5, s6, s7, s8, s9] =
      .nx [s0, s1, .ow (intsL L), .ow (.list ((acc ++ js.map fun (j : Nat) => (L.getD (t % 2 + 2 * j) 0, L.getD (t % 2 + 2 * j + 1) 0)).map pairD)), s4', s5, s6, s7, s8, s9] := by
  induction js with
  | nil => exact fun acc s4 _ _ => ⟨s4, by simp [forGo]⟩
  | cons j js ih =>
    intro acc s4 hj hl
    rw [List.length_cons] at hl
    obtain ⟨s4', h⟩ := ih (acc ++ [(L.getD (t % 2 + 2 * j) 0, L.getD (t % 2 + 2 * j + 1) 0)]) (.fz (.int ((t % 2 + 2 * j : Nat) : Int))) (fun k hk => hj k (List.mem_cons_of_mem _ hk)) (by rw [List.length_append, List.length_singleton]; omega)
    refine ⟨s4', ?_⟩
    rw [List.map_cons]
    refine (forGo_cons rfl (dA_step (hj j List.mem_cons_self) (by omega))).trans ?_
    rw [h, List.append_assoc]
    rfl
abbrev dB : S := .seq (.asg 8 (.me .index (.v 2) (.cons (.v 5) .nil))) (.seq (.set2 2 (.v 8) (.op .Add (.v 8) (.k (.int 1))) (.cons (.v 6) (.cons (.v 5) .nil))) .nil)
/-- a pair swapped -/
theorem dB_step {R : List Int} {x y : Int} {p : Nat} {s0 s1 s3 s4 s7 s8 s9 : Slot} (hm : x ∈ R) (hi : R.idxOf x = p) (hp : p + 1 < R.length) :
    xec cx dB [s0, s1, .ow (intsL R), s3, s4, .fz (.int x), .fz (.int y), s7, s8, s9] = .nx [s0, s1, .ow (intsL ((R.set p y).set (p + 1) x)), s3, s4, .fz (.int x), .fz (.int y), s7, .fz (.int (p : Int)), s9] := by
  have e1 : ev cx (.me .index (.v 2) (.cons (.v 5) .nil)) [s0, s1, .ow (intsL R), s3, s4, .fz (.int x), .fz (.int y), s7, s8, s9] = .ok (.d (.int (p : Int)), [s0, s1, .ow (intsL R), s3, s4, .fz (.int x), .fz (.int y), s7, s8, s9]) := by
    show (got ((intsD (R.map .int)).bind fun ns => if x ∈ ns then some (Rv.d (.int (ns.idxOf x : Nat))) else none) fun z => Iv.R.ok (z, _)) = _
    rw [intsD_map]
    show (got (if x ∈ R then some (Rv.d (.int (R.idxOf x : Nat))) else none) fun z => Iv.R.ok (z, _)) = _
    rw [if_pos hm, hi]
    rfl
  have i1 : setItem (intsL R) (.int (p : Int)) (.int y) = some (intsL (R.set p y)) := by
    show (if 0 ≤ (p : Int) ∧ (p : Int) < ((R.map PyData.int).length : Nat) then some (PyData.list ((R.map .int).set (p : Int).toNat (.int y))) else none) = _
    rw [if_pos ⟨by omega, by rw [List.length_map]; omega⟩, Int.toNat_natCast, ← List.map_set]
    rfl
  have i2 : setItem (intsL (R.set p y)) (.int ((p : Int) + 1)) (.int x) = some (intsL ((R.set p y).set (p + 1) x)) := by
    show (if 0 ≤ (p : Int) + 1 ∧ (p : Int) + 1 < (((R.set p y).map PyData.int).length : Nat) then some (PyData.list (((R.set p y).map .int).set ((p : Int) + 1).toNat (.int x))) else none) = _
    rw [if_pos ⟨by omega, by rw [List.length_map, List.length_set]; omega⟩, show ((p : Int) + 1).toNat = p + 1 by omega, ← List.map_set]
    rfl
  rw [xec_seq (ρ1 := [s0, s1, .ow (intsL R), s3, s4, .fz (.int x), .fz (.int y), s7, .fz (.int (p : Int)), s9]) (xec_asg e1 rfl)]
  show ((lifo (setItem (intsL R) (.int (p : Int)) (.int y)) fun d' => lifo (owOf (.ow d')) fun _ => lifo (owOf (.ow d')) fun d => lifo (setItem d (.int ((p : Int) + 1)) (.int x)) fun d'' => F.nx [s0, s1, .ow d'', s3, s4, .fz (.int x), .fz (.int y), s7, .fz (.int (p : Int)), s9]).seq fun ρ => .nx ρ) = _
  rw [i1, lifo_some]
  show ((lifo (setItem (intsL (R.set p y)) (.int ((p : Int) + 1)) (.int x)) fun d'' => F.nx [s0, s1, .ow d'', s3, s4, .fz (.int x), .fz (.int y), s7, .fz (.int (p : Int)), s9]).seq fun ρ => .nx ρ) = _
  rw [i2, lifo_some]
  rfl
end
end Iv
set_option maxRecDepth 100000
set_option maxHeartbeats 4000000
namespace Iv
open PySem PySem.Spec PyProof.Rows L2
section
variable {cx : Ctx}
def pairAt (L : List Int) (t j : Nat) : Int × Int := (L.getD (t % 2 + 2 * j) 0, L.getD (t % 2 + 2 * j + 1) 0)
def pairsFrom (L : List Int) (t j0 k : Nat) : List (Int × Int) := (List.range k).map fun (j : Nat) => pairAt L t (j0 + j)
theorem pairsFrom_succ {L : List Int} {t j0 k : Nat} : pairsFrom L t j0 (k + 1) = pairAt L t j0 :: pairsFrom L t (j0 + 1) k := by
  unfold pairsFrom
  rw [List.range_succ_eq_map, List.map_cons, List.map_map]
  congr 1
  apply List.map_congr_left
  intro j _
  show pairAt L t (j0 + (j + 1)) = pairAt L t (j0 + 1 + j)
  congr 1
  omega
theorem pairsFrom_all {L : List Int} {t : Nat} : pairsFrom L t 0 (nPairs L.length t) = pairsL L t := by
  unfold pairsFrom pairsL
  apply List.map_congr_left
  intro j _
  rw [Nat.zero_add]
  rfl
theorem dB_loop {L : List Int} (nd : L.Nodup) {t : Nat} {s0 s1 s3 s4 s7 s9 : Slot} (k : Nat) : ∀ (j0 : Nat) (s5 s6 s8 : Slot), t % 2 + 2 * (j0 + k) ≤ L.length → ∃ s5' s6' s8',
    forGo (xec cx dB) (.t [5, 6]) ((pairsFrom L t j0 k).map pairD) [s0, s1, .ow (intsL (rowsJ L t (t % 2 + 2 * j0))), s3, s4, s5, s6, s7, s8, s9] =
      .nx [s0, s1, .ow (intsL (rowsJ L t (t % 2 + 2 * (j0 + k)))), s3, s4, s5', s6', s7, s8', s9] := by
  induction k with
  | zero => exact fun j0 s5 s6 s8 _ => ⟨s5, s6, s8, rfl⟩
  | succ k ih =>
    intro j0 s5 s6 s8 hl
    obtain ⟨s5', s6', s8', h⟩ := ih (j0 + 1) (.fz (.int (L.getD (t % 2 + 2 * j0) 0))) (.fz (.int (L.getD (t % 2 + 2 * j0 + 1) 0))) (.fz (.int ((t % 2 + 2 * j0 : Nat) : Int))) (by omega)
    refine ⟨s5', s6', s8', ?_⟩
    rw [pairsFrom_succ, List.map_cons]
    have hb : (t % 2 + 2 * j0 + t) % 2 = 0 := by omega
    refine (forGo_cons (ρ1 := [s0, s1, .ow (intsL (rowsJ L t (t % 2 + 2 * j0))), s3, s4, .fz (.int (L.getD (t % 2 + 2 * j0) 0)), .fz (.int (L.getD (t % 2 + 2 * j0 + 1) 0)), s7, s8, s9]) rfl (dB_step (rowsJ_mem (by omega)) (rowsJ_idx nd hb (by omega)) (by rw [rowsJ_len]; omega))).trans ?_
    rw [rowsJ_step hb (by omega), show t % 2 + 2 * j0 + 2 = t % 2 + 2 * (j0 + 1) by omega, h, show j0 + 1 + k = j0 + (k + 1) by omega]
theorem lc_fst10 {s0 s1 s2 s4 s7 s8 s9 : Slot} (xs : List (Int × Int)) : ∀ acc : List D, lcGo (ev cx (.k (.bool true))) (ev cx (.v 5)) (.t [5, 6]) [5, 6] (xs.map pairD) [s0, s1, s2, .no, s4, .no, .no, s7, s8, s9] acc = .ok (acc.reverse ++ xs.map (fun p => .int p.1), [s0, s1, s2, .no, s4, .no, .no, s7, s8, s9]) := by
  induction xs with
  | nil =>
    intro acc
    show R.ok (acc.reverse, _) = R.ok (acc.reverse ++ [], _)
    rw [List.append_nil]
  | cons x xs ih =>
    intro acc
    rw [List.map_cons]
    refine (lcGo_yes (ρ1 := [s0, s1, s2, .no, s4, .fz (.int x.1), .fz (.int x.2), s7, s8, s9]) (r := .d (.bool true)) (y := .d (.int x.1)) (z := .int x.1) rfl rfl rfl rfl rfl).trans ?_
    refine (ih (.int x.1 :: acc)).trans ?_
    rw [List.reverse_cons, List.map_cons, List.append_assoc]
    rfl
theorem lc_snd10 {s0 s1 s2 s4 s7 s8 s9 : Slot} (xs : List (Int × Int)) : ∀ acc : List D, lcGo (ev cx (.k (.bool true))) (ev cx (.v 6)) (.t [5, 6]) [5, 6] (xs.map pairD) [s0, s1, s2, .no, s4, .no, .no, s7, s8, s9] acc = .ok (acc.reverse ++ xs.map (fun p => .int p.2), [s0, s1, s2, .no, s4, .no, .no, s7, s8, s9]) := by
  induction xs with
  | nil =>
    intro acc
    show R.ok (acc.reverse, _) = R.ok (acc.reverse ++ [], _)
    rw [List.append_nil]
  | cons x xs ih =>
    intro acc
    rw [List.map_cons]
    refine (lcGo_yes (ρ1 := [s0, s1, s2, .no, s4, .fz (.int x.1), .fz (.int x.2), s7, s8, s9]) (r := .d (.bool true)) (y := .d (.int x.2)) (z := .int x.2) rfl rfl rfl rfl rfl).trans ?_
    refine (ih (.int x.2 :: acc)).trans ?_
    rw [List.reverse_cons, List.map_cons, List.append_assoc]
    rfl
def busyL (L : List Int) (t : Nat) : List Int := (pairsL L t).map (·.1) ++ (pairsL L t).map (·.2)
def idleL (L : List Int) (t : Nat) : List Int := L.filter fun x => decide (x ∉ busyL L t)
theorem flatAll {k : Nat} : ∀ {xs : List D}, (∀ x ∈ xs, x.canLay0 = true ∧ x.depth ≤ k) → PyData.canLayAll0 xs = true ∧ PyData.depthAll xs ≤ k
  | [], _ => ⟨rfl, Nat.zero_le _⟩
  | x :: xs, h => by
    obtain ⟨h1, h2⟩ := flatAll (xs := xs) fun y hy => h y (List.mem_cons_of_mem _ hy)
    obtain ⟨h3, h4⟩ := h x List.mem_cons_self
    refine ⟨by rw [PyData.canLayAll0, h3, h1]; rfl, ?_⟩
    rw [PyData.depthAll]
    omega
theorem shaped_list {k : Nat} {xs : List D} (hk : k ≤ 63) (h : ∀ x ∈ xs, x.canLay0 = true ∧ x.depth ≤ k) : SeqAt.shaped (.list xs) = true := by
  obtain ⟨h1, h2⟩ := flatAll h
  refine Bool.and_eq_true_iff.mpr ⟨by rw [PyData.canLay0]; exact h1, decide_eq_true ?_⟩
  rw [PyData.depth]
  omega
theorem shaped_tuple {k : Nat} {xs : List D} (hk : k ≤ 63) (h : ∀ x ∈ xs, x.canLay0 = true ∧ x.depth ≤ k) : SeqAt.shaped (.tuple xs) = true := by
  obtain ⟨h1, h2⟩ := flatAll h
  refine Bool.and_eq_true_iff.mpr ⟨by rw [PyData.canLay0]; exact h1, decide_eq_true ?_⟩
  rw [PyData.depth]
  omega
theorem flat_ints (L : List Int) : ∀ x ∈ L.map PyData.int, x.canLay0 = true ∧ x.depth ≤ 0 := fun x hx => by
  obtain ⟨i, _, rfl⟩ := List.mem_map.mp hx
  exact ⟨rfl, Nat.le_refl _⟩
theorem flat_pairs (L : List (Int × Int)) : ∀ x ∈ L.map pairD, x.canLay0 = true ∧ x.depth ≤ 1 := fun x hx => by
  obtain ⟨i, _, rfl⟩ := List.mem_map.mp hx
  exact ⟨rfl, Nat.le_refl _⟩
theorem shaped_ints (L : List Int) : SeqAt.shaped (.list (L.map .int)) = true := shaped_list (by decide) (flat_ints L)
theorem any_eqv (L : List Int) (x : Int) : ((L.map PyData.int).any fun z => PyData.eqv z (.int x)) = decide (x ∈ L) := by
  induction L with
  | nil => rfl
  | cons y L ih =>
    rw [List.map_cons, List.any_cons, ih]
    have e : PyData.eqv (.int y) (.int x) = decide (y = x) := rfl
    rw [e]
    by_cases h : y = x
    · subst h
      simp
    · have h2 : x ≠ y := fun e => h e.symm
      simp [h, h2]
theorem lc_idle {B : List Int} {s0 s1 s2 s3 s4 s5 s6 s8 : Slot} (xs : List Int) : ∀ acc : List D, lcGo (ev cx (.tr (.cmp .NotIn (.v 9) (.v 7)))) (ev cx (.v 9)) (.n 9) [9] (xs.map .int) [s0, s1, s2, s3, s4, s5, s6, .ow (intsL B), s8, .no] acc =
    .ok (acc.reverse ++ (xs.filter fun x => decide (x ∉ B)).map .int, [s0, s1, s2, s3, s4, s5, s6, .ow (intsL B), s8, .no]) := by
  induction xs with
  | nil =>
    intro acc
    show R.ok (acc.reverse, _) = R.ok (acc.reverse ++ [], _)
    rw [List.append_nil]
  | cons x xs ih =>
    intro acc
    rw [List.map_cons]
    have t1 : ev cx (.tr (.cmp .NotIn (.v 9) (.v 7))) [s0, s1, s2, s3, s4, s5, s6, .ow (intsL B), s8, .fz (.int x)] = .ok (.d (.bool (decide (x ∉ B))), [s0, s1, s2, s3, s4, s5, s6, .ow (intsL B), s8, .fz (.int x)]) := by
      refine ev_tr (ev_cmp rfl rfl rfl rfl ?_)
      show (if SeqAt.shaped (.int x) = true ∧ SeqAt.shaped (.list (B.map .int)) = true then some (!(B.map PyData.int).any fun z => PyData.eqv z (.int x)) else none) = _
      rw [if_pos ⟨rfl, shaped_ints B⟩, any_eqv]
      congr 1
      by_cases h : x ∈ B <;> simp [h]
    by_cases h : x ∈ B
    · rw [show decide (x ∉ B) = false by simp [h]] at t1
      refine (lcGo_not (ρ1 := [s0, s1, s2, s3, s4, s5, s6, .ow (intsL B), s8, .fz (.int x)]) rfl t1 rfl).trans ?_
      refine (ih acc).trans ?_
      rw [List.filter_cons_of_neg (by simp [h])]
    · rw [show decide (x ∉ B) = true by simp [h]] at t1
      refine (lcGo_yes (ρ1 := [s0, s1, s2, s3, s4, s5, s6, .ow (intsL B), s8, .fz (.int x)]) (y := .d (.int x)) (z := .int x) rfl t1 rfl rfl rfl).trans ?_
      refine (ih (.int x :: acc)).trans ?_
      rw [List.filter_cons_of_pos (by simp [h]), List.reverse_cons, List.map_cons, List.append_assoc]
      rfl
abbrev lcF : C := .lc [5, 6] (.v 5) (.t [5, 6]) .seq (.cons (.v 3) .nil) (.k (.bool true))
abbrev lcS : C := .lc [5, 6] (.v 6) (.t [5, 6]) .seq (.cons (.v 3) .nil) (.k (.bool true))
abbrev lcI : C := .lc [9] (.v 9) (.n 9) .seq (.cons (.v 0) .nil) (.tr (.cmp .NotIn (.v 9) (.v 7)))
def dancedC : S := .seq (.par [2, 3] (.cons (.bi .list (.cons (.v 0) .nil)) (.cons (.lst .nil) .nil))) (.seq (.for (.n 4) .r3 (.cons (.op .Mod (.v 1) (.k (.int 2))) (.cons (.op .Sub (.bi .len (.cons (.v 2) .nil)) (.k (.int 1))) (.cons (.k (.int 2)) .nil))) dA) (.seq (.asg 7 (.op .Add lcF lcS)) (.seq (.for (.t [5, 6]) .seq (.cons (.v 3) .nil) dB) (.seq (.ret (.tup (.cons (.v 3) (.cons lcI (.cons (.bi .tuple (.cons (.v 2) .nil)) .nil))))) .nil))))
def DancedF (f : FI) : Prop := f.io = false ∧ ∀ (L : List Int) (t : Nat), L.Nodup → 2 ≤ L.length → L.length ≤ 1000 → f.sem [intsT L, .int t] = .ok (.tuple [.list ((pairsL L t).map pairD), intsL (idleL L t), intsT (stepL L t)]) false
theorem sem_danced (L : List Int) (t : Nat) (nd : L.Nodup) (h2 : 2 ≤ L.length) (h3 : L.length ≤ 1000) : run cx 10 false dancedC [intsT L, .int t] = .ok (.tuple [.list ((pairsL L t).map pairD), intsL (idleL L t), intsT (stepL L t)]) false := by
  have hb : (big : Nat) = 10000000 := rfl
  have hnp : nPairs L.length t ≤ 1000 := by unfold nPairs; omega
  have pl : (pairsL L t).length = nPairs L.length t := by unfold pairsL; rw [List.length_map, List.length_range]
  have e0 : xec cx (.par [2, 3] (.cons (.bi .list (.cons (.v 0) .nil)) (.cons (.lst .nil) .nil))) [.fz (intsT L), .fz (.int t), .no, .no, .no, .no, .no, .no, .no, .no] = .nx [.fz (intsT L), .fz (.int t), .ow (intsL L), .ow (.list (([] : List (Int × Int)).map pairD)), .no, .no, .no, .no, .no, .no] := rfl
  -- the pairs
  have l1 : ev cx (.bi .len (.cons (.v 2) .nil)) [.fz (intsT L), .fz (.int t), .ow (intsL L), .ow (.list (([] : List (Int × Int)).map pairD)), .no, .no, .no, .no, .no, .no] = .ok (.d (.int L.length), [.fz (intsT L), .fz (.int t), .ow (intsL L), .ow (.list (([] : List (Int × Int)).map pairD)), .no, .no, .no, .no, .no, .no]) := by
    have : ev cx (.bi .len (.cons (.v 2) .nil)) [.fz (intsT L), .fz (.int t), .ow (intsL L), .ow (.list (([] : List (Int × Int)).map pairD)), .no, .no, .no, .no, .no, .no] = .ok (.d (.int (L.map PyData.int).length), [.fz (intsT L), .fz (.int t), .ow (intsL L), .ow (.list (([] : List (Int × Int)).map pairD)), .no, .no, .no, .no, .no, .no]) := rfl
    rw [List.length_map] at this
    exact this
  have l2 := ev_cons (ev_mod2 (cx := cx) (ρ := [.fz (intsT L), .fz (.int t), .ow (intsL L), .ow (.list (([] : List (Int × Int)).map pairD)), .no, .no, .no, .no, .no, .no]) (t := t) (i := 1) rfl) (ev_cons (ev_op (o := .Sub) (b := .k (.int 1)) l1 rfl rfl rfl rfl) (b := .cons (.k (.int 2)) .nil) (ys := [.d (.int 2)]) rfl)
  have w := walked3 (a := ((t % 2 : Nat) : Int)) (b := (L.length : Int) - 1) (c := 2) (by omega) (by omega) (by omega) (by omega) (by omega)
  rw [rangeC_eq h2] at w
  obtain ⟨s4, hA⟩ := dA_loop (cx := cx) (L := L) (t := t) (s0 := .fz (intsT L)) (s1 := .fz (.int t)) (s5 := .no) (s6 := .no) (s7 := .no) (s8 := .no) (s9 := .no) (List.range (nPairs L.length t)) [] .no (fun j hj => by have := List.mem_range.mp hj; unfold nPairs at this; omega) (by rw [List.length_nil, List.length_range]; omega)
  have e1 := (xec_for (tg := .n 4) (w := .r3) (body := dA) l2 rfl rfl w).trans hA
  have eP : ([] ++ (List.range (nPairs L.length t)).map fun (j : Nat) => (L.getD (t % 2 + 2 * j) 0, L.getD (t % 2 + 2 * j + 1) 0)) = pairsL L t := rfl
  rw [eP] at e1
  -- who is busy
  have f1 := ev_lc (cx := cx) (own := [5, 6]) (elt := .v 5) (tg := .t [5, 6]) (w := .seq) (it := .cons (.v 3) .nil) (ifs := .k (.bool true)) (ρ := [.fz (intsT L), .fz (.int t), .ow (intsL L), .ow (.list ((pairsL L t).map pairD)), s4, .no, .no, .no, .no, .no]) (ρ1 := [.fz (intsT L), .fz (.int t), .ow (intsL L), .ow (.list ((pairsL L t).map pairD)), s4, .no, .no, .no, .no, .no]) (rs := [.o 3]) (ds := [.list ((pairsL L t).map pairD)]) (items := (pairsL L t).map pairD) rfl rfl rfl (by rw [List.length_map]; omega) (lc_fst10 (pairsL L t) [])
  have f2 := ev_lc (cx := cx) (own := [5, 6]) (elt := .v 6) (tg := .t [5, 6]) (w := .seq) (it := .cons (.v 3) .nil) (ifs := .k (.bool true)) (ρ := [.fz (intsT L), .fz (.int t), .ow (intsL L), .ow (.list ((pairsL L t).map pairD)), s4, .no, .no, .no, .no, .no]) (ρ1 := [.fz (intsT L), .fz (.int t), .ow (intsL L), .ow (.list ((pairsL L t).map pairD)), s4, .no, .no, .no, .no, .no]) (rs := [.o 3]) (ds := [.list ((pairsL L t).map pairD)]) (items := (pairsL L t).map pairD) rfl rfl rfl (by rw [List.length_map]; omega) (lc_snd10 (pairsL L t) [])
  have f3 : binop .Add (.list ([].reverse ++ (pairsL L t).map fun p => .int p.1)) (.list ([].reverse ++ (pairsL L t).map fun p => .int p.2)) = some (.f (intsL (busyL L t))) := by
    show (if _ then _ else none) = _
    rw [if_pos (by simp [pl]; omega)]
    unfold busyL intsL
    rw [List.map_append, List.map_map, List.map_map]
    rfl
  have e2 : xec cx (.asg 7 (.op .Add lcF lcS)) [.fz (intsT L), .fz (.int t), .ow (intsL L), .ow (.list ((pairsL L t).map pairD)), s4, .no, .no, .no, .no, .no] = .nx [.fz (intsT L), .fz (.int t), .ow (intsL L), .ow (.list ((pairsL L t).map pairD)), s4, .no, .no, .ow (intsL (busyL L t)), .no, .no] :=
    xec_asg (ev_op f1 f2 rfl rfl f3) rfl
  -- the swaps
  obtain ⟨s5, s6, s8, hB⟩ := dB_loop (cx := cx) nd (t := t) (s0 := .fz (intsT L)) (s1 := .fz (.int t)) (s3 := .fz (.list ((pairsL L t).map pairD))) (s4 := s4) (s7 := .ow (intsL (busyL L t))) (s9 := .no) (nPairs L.length t) 0 .no .no .no (by unfold nPairs; omega)
  rw [pairsFrom_all, Nat.mul_zero, Nat.add_zero, rowsJ_start, Nat.zero_add, rowsJ_end h2] at hB
  have e3 := (xec_for (cx := cx) (tg := .t [5, 6]) (w := .seq) (it := .cons (.v 3) .nil) (body := dB) (ρ := [.fz (intsT L), .fz (.int t), .ow (intsL L), .ow (.list ((pairsL L t).map pairD)), s4, .no, .no, .ow (intsL (busyL L t)), .no, .no]) (rs := [.o 3]) (ds := [.list ((pairsL L t).map pairD)]) rfl rfl rfl rfl).trans hB
  -- the end
  have g1 := ev_lc (cx := cx) (own := [9]) (elt := .v 9) (tg := .n 9) (w := .seq) (it := .cons (.v 0) .nil) (ifs := .tr (.cmp .NotIn (.v 9) (.v 7))) (ρ := [.fz (intsT L), .fz (.int t), .ow (intsL (stepL L t)), .fz (.list ((pairsL L t).map pairD)), s4, s5, s6, .ow (intsL (busyL L t)), s8, .no]) (ρ1 := [.fz (intsT L), .fz (.int t), .ow (intsL (stepL L t)), .fz (.list ((pairsL L t).map pairD)), s4, s5, s6, .ow (intsL (busyL L t)), s8, .no]) (rs := [.d (intsT L)]) (ds := [intsT L]) (items := L.map .int) rfl rfl rfl (by rw [List.length_map]; omega) (lc_idle L [])
  have g0 : ev cx (.v 3) [.fz (intsT L), .fz (.int t), .ow (intsL (stepL L t)), .fz (.list ((pairsL L t).map pairD)), s4, s5, s6, .ow (intsL (busyL L t)), s8, .no] = .ok (.d (.list ((pairsL L t).map pairD)), [.fz (intsT L), .fz (.int t), .ow (intsL (stepL L t)), .fz (.list ((pairsL L t).map pairD)), s4, s5, s6, .ow (intsL (busyL L t)), s8, .no]) := rfl
  have g2 := ev_cons g0 (ev_cons g1 (b := .cons (.bi .tuple (.cons (.v 2) .nil)) .nil) (ys := [.d (intsT (stepL L t))]) rfl)
  have g3 := ev_tup g2 rfl (by show 3 ≤ big; decide)
  refine run_rt (ρ0 := [.fz (intsT L), .fz (.int t), .no, .no, .no, .no, .no, .no, .no, .no]) rfl ⟨[.fz (intsT L), .fz (.int t), .ow (intsL (stepL L t)), .fz (.list ((pairsL L t).map pairD)), s4, s5, s6, .ow (intsL (busyL L t)), s8, .no], ?_⟩
  unfold dancedC
  rw [xec_seq e0, xec_seq e1, xec_seq e2, xec_seq e3]
  show (F.seq (lift (ev cx _ _) retF) _) = _
  rw [g3]
  rfl
end
end Iv
set_option maxRecDepth 100000
set_option maxHeartbeats 4000000
namespace Iv
open PySem PySem.Spec PyProof.Rows L2
theorem ne_self {d : D} (h : SeqAt.shaped d = true) : cmpop .NotEq d d = some false := by
  show (if SeqAt.shaped d = true ∧ SeqAt.shaped d = true then some (!PyData.eqv d d) else none) = _
  rw [if_pos ⟨h, h⟩, SeqAt.eqv_refl d (SeqAt.canLay_of_shaped h)]
  rfl
theorem eq_self {l : List D} (h : SeqAt.shaped (.list l) = true) : cmpop .Eq (.list l) (.list l) = some true := by
  show (if SeqAt.shaped (.list l) = true ∧ SeqAt.shaped (.list l) = true then some (PyData.eqv (.list l) (.list l)) else none) = _
  rw [if_pos ⟨h, h⟩, SeqAt.eqv_refl _ (SeqAt.canLay_of_shaped h)]
theorem busy_iff {L : List Int} (nd : L.Nodup) {t q : Nat} (hq : q < L.length) : L.getD q 0 ∈ busyL L t ↔ t % 2 ≤ q ∧ q < t % 2 + 2 * nPairs L.length t := by
  have bound : ∀ j, j < nPairs L.length t → t % 2 + 2 * j + 1 < L.length := fun j hj => by unfold nPairs at hj; omega
  unfold busyL pairsL
  rw [List.map_map, List.map_map, List.mem_append, List.mem_map, List.mem_map]
  constructor
  · rintro (⟨j, hj, e⟩ | ⟨j, hj, e⟩)
    · have hj := List.mem_range.mp hj
      have := getD_inj nd (by have := bound j hj; omega) hq (show L.getD (t % 2 + 2 * j) 0 = L.getD q 0 from e)
      omega
    · have hj := List.mem_range.mp hj
      have := getD_inj nd (bound j hj) hq (show L.getD (t % 2 + 2 * j + 1) 0 = L.getD q 0 from e)
      omega
  · rintro ⟨h1, h2⟩
    by_cases h : (q - t % 2) % 2 = 0
    · refine .inl ⟨(q - t % 2) / 2, List.mem_range.mpr (by omega), ?_⟩
      show L.getD (t % 2 + 2 * ((q - t % 2) / 2)) 0 = _
      rw [show t % 2 + 2 * ((q - t % 2) / 2) = q by omega]
    · refine .inr ⟨(q - t % 2) / 2, List.mem_range.mpr (by omega), ?_⟩
      show L.getD (t % 2 + 2 * ((q - t % 2) / 2) + 1) 0 = _
      rw [show t % 2 + 2 * ((q - t % 2) / 2) + 1 = q by omega]
theorem mem_getD {L : List Int} {x : Int} (h : x ∈ L) : ∃ q, q < L.length ∧ L.getD q 0 = x := by
  obtain ⟨q, hq, e⟩ := List.mem_iff_getElem.mp h
  exact ⟨q, hq, by simp [hq, e]⟩
theorem getD_mem {L : List Int} {q : Nat} (h : q < L.length) : L.getD q 0 ∈ L := by
  have e : L.getD q 0 = L[q] := by simp [h]
  rw [e]
  exact List.getElem_mem h
theorem wait_perm {L : List Int} (nd : L.Nodup) (h2 : 2 ≤ L.length) (t : Nat) : List.Perm (idleL L t) (waitL L t) := by
  have n1 : (idleL L t).Nodup := nd.sublist List.filter_sublist
  have ne : L.getD 0 0 ≠ L.getD (L.length - 1) 0 := fun e => by
    have := getD_inj nd (by omega) (by omega) e
    omega
  have n2 : (waitL L t).Nodup := by
    rw [List.getD_eq_getElem?_getD, List.getD_eq_getElem?_getD] at ne
    unfold waitL
    split <;> split <;> simp [ne]
  refine (List.perm_ext_iff_of_nodup n1 n2).mpr fun x => ?_
  have mw : x ∈ waitL L t ↔ (t % 2 = 1 ∧ x = L.getD 0 0) ∨ ((L.length + t) % 2 = 1 ∧ x = L.getD (L.length - 1) 0) := by
    unfold waitL
    rw [List.mem_append]
    split <;> split <;> simp_all
  rw [mw]
  unfold idleL
  rw [List.mem_filter, decide_eq_true_eq]
  constructor
  · rintro ⟨hx, hb⟩
    obtain ⟨q, hq, rfl⟩ := mem_getD hx
    rw [busy_iff nd hq] at hb
    unfold nPairs at hb
    by_cases h : q < t % 2
    · have : q = 0 := by omega
      subst this
      exact .inl ⟨by omega, rfl⟩
    · have : q = L.length - 1 := by omega
      subst this
      exact .inr ⟨by omega, rfl⟩
  · rintro (⟨h, rfl⟩ | ⟨h, rfl⟩)
    · refine ⟨getD_mem (by omega), fun hb => ?_⟩
      rw [busy_iff nd (by omega)] at hb
      omega
    · refine ⟨getD_mem (by omega), fun hb => ?_⟩
      rw [busy_iff nd (by omega)] at hb
      unfold nPairs at hb
      omega
theorem waitL_length {L : List Int} {t : Nat} (h2 : 2 ≤ L.length) : nPairs L.length t * 2 + (waitL L t).length = L.length := by
  unfold waitL nPairs
  rw [List.length_append]
  split <;> split <;> simp <;> omega
theorem sort_ints_perm {l m : List Int} (h : List.Perm l m) : sortD (l.map .int) = sortD (m.map .int) := by
  refine sort_eq ((h.map _).trans (List.mergeSort_perm _ _).symm) (List.pairwise_mergeSort (le := leD) leD_trans leD_total _) fun a b ha hb h1 h2 => ?_
  have ha := (List.mergeSort_perm _ _).mem_iff.mp ha
  have hb := (List.mergeSort_perm _ _).mem_iff.mp hb
  obtain ⟨x, _, rfl⟩ := List.mem_map.mp ha
  obtain ⟨y, _, rfl⟩ := List.mem_map.mp hb
  rw [le1] at h1 h2
  have h1 := of_decide_eq_true h1
  have h2 := of_decide_eq_true h2
  rw [show x = y by omega]
theorem shaped_sort (l : List Int) : SeqAt.shaped (.list (sortD (l.map .int))) = true := shaped_list (k := 0) (by decide) fun x hx => flat_ints l x ((List.mergeSort_perm _ _).mem_iff.mp hx)
theorem shaped_pairs (l : List (Int × Int)) : SeqAt.shaped (.list (l.map pairD)) = true := shaped_list (k := 1) (by decide) (flat_pairs l)
theorem shaped_intsT (l : List Int) : SeqAt.shaped (intsT l) = true := shaped_tuple (k := 0) (by decide) (flat_ints l)
theorem sg_inj_nodup {L : List Int} (nd : L.Nodup) (t : Nat) : (stepL L t).Nodup := by
  unfold stepL
  rw [List.nodup_iff_pairwise_ne, List.pairwise_map]
  refine List.Pairwise.imp_of_mem (R := (· ≠ ·)) (fun {a b} ha hb hab e => hab ?_) List.nodup_range
  have ha := List.mem_range.mp ha
  have hb := List.mem_range.mp hb
  have := getD_inj nd (sg_lt (t := t) ha) (sg_lt (t := t) hb) e
  rw [← sg_sg (t := t) ha, this, sg_sg hb]
theorem lineAt_nd {ns : List Int} (nd : ns.Nodup) : ∀ t, (lineAt ns t).Nodup
  | 0 => nd
  | t + 1 => sg_inj_nodup (lineAt_nd nd t) t
end Iv
set_option maxRecDepth 100000
set_option maxHeartbeats 4000000
/-! N1: far lines: after n rounds the line is turned round, after 2 n it is as at first. -/
namespace Iv
open PySem PySem.Spec PyProof.Rows L2
theorem sg_par {n t u q : Nat} (h : t % 2 = u % 2) : sg n t q = sg n u q := by
  unfold sg
  rw [show (q + t) % 2 = (q + u) % 2 by omega]
theorem stepL_par {L : List Int} {t u : Nat} (h : t % 2 = u % 2) : stepL L t = stepL L u := by
  unfold stepL
  apply List.map_congr_left
  intro q _
  rw [sg_par h]
theorem pos_add {n p : Nat} (hp : p < n) (t : Nat) : pos n p (t + n) = n - 1 - pos n p t := by
  have h1 := (dest_pos hp t).1
  have h2 := (dest_pos hp (t + n)).1
  have l1 := pos_lt hp t
  have l2 := pos_lt hp (t + n)
  have s0 := Int.emod_nonneg (spotOf n p 0 + t) (show (2 * n : Int) ≠ 0 by omega)
  have s1 := Int.emod_lt_of_pos (spotOf n p 0 + t) (show (0 : Int) < 2 * n by omega)
  have e : (spotOf n p 0 + ((t + n : Nat) : Int)) % (2 * n : Int) = if (spotOf n p 0 + t) % (2 * n : Int) < n then (spotOf n p 0 + t) % (2 * n : Int) + n else (spotOf n p 0 + t) % (2 * n : Int) - n := by
    have e1 : (spotOf n p 0 + ((t + n : Nat) : Int)) = spotOf n p 0 + t + n := by omega
    rw [e1, ← Int.emod_add_emod]
    split
    · rw [Int.emod_eq_of_lt (by omega) (by omega)]
    · rw [← Int.sub_emod_right, Int.emod_eq_of_lt (by omega) (by omega)]
      omega
  unfold dest at h1 h2
  rw [e] at h2
  generalize (spotOf n p 0 + t) % (2 * n : Int) = s at *
  generalize pos n p t = a at *
  generalize pos n p (t + n) = b at *
  unfold placeOf at h1 h2
  split at h1 <;> split at h2 <;> (try split at h2) <;> omega
theorem pos_sur {n q : Nat} (h : q < n) (t : Nat) : ∃ p, p < n ∧ pos n p t = q := by
  have := (pos_perm n t).mem_iff.mpr (List.mem_range.mpr h)
  obtain ⟨p, hp, e⟩ := List.mem_map.mp this
  exact ⟨p, List.mem_range.mp hp, e⟩
theorem ext_getD {L M : List Int} (h : L.length = M.length) (e : ∀ q, q < L.length → L.getD q 0 = M.getD q 0) : L = M := by
  rw [← getD_map (L := L), ← getD_map (L := M), h]
  apply List.map_congr_left
  intro q hq
  exact e q (by rw [h]; exact List.mem_range.mp hq)
theorem getD_rev {L : List Int} {q : Nat} (h : q < L.length) : L.reverse.getD q 0 = L.getD (L.length - 1 - q) 0 := by
  rw [List.getD_eq_getElem?_getD, List.getD_eq_getElem?_getD, List.getElem?_reverse h]
/-- after n more rounds the line is turned round -/
theorem lineAt_add (ns : List Int) (t : Nat) : lineAt ns (t + ns.length) = (lineAt ns t).reverse := by
  refine ext_getD (by rw [lineAt_len, List.length_reverse, lineAt_len]) fun q hq => ?_
  rw [lineAt_len] at hq
  obtain ⟨p, hp, e⟩ := pos_sur hq (t + ns.length)
  have h1 := lineAt_pos hp (t + ns.length)
  have h2 := lineAt_pos hp t
  have l := pos_lt hp t
  rw [e] at h1
  rw [pos_add hp t] at e
  rw [h1, getD_rev (by rw [lineAt_len]; exact hq), lineAt_len, ← h2]
  congr 1
  omega
theorem lineAt_add2 (ns : List Int) (t : Nat) : lineAt ns (t + 2 * ns.length) = lineAt ns t := by
  rw [show t + 2 * ns.length = t + ns.length + ns.length by omega, lineAt_add, lineAt_add, List.reverse_reverse]
theorem lineAt_mod (ns : List Int) (t : Nat) : lineAt ns t = lineAt ns (t % (2 * ns.length)) := by
  have go : ∀ k r : Nat, lineAt ns (r + 2 * ns.length * k) = lineAt ns r := by
    intro k
    induction k with
    | zero => intro r; rfl
    | succ k ih =>
      intro r
      rw [show r + 2 * ns.length * (k + 1) = r + 2 * ns.length * k + 2 * ns.length by rw [Nat.mul_add, Nat.mul_one, Nat.add_assoc], lineAt_add2, ih]
  have e := go (t / (2 * ns.length)) (t % (2 * ns.length))
  rw [Nat.mod_add_div] at e
  exact e
theorem sg_rev {n t q : Nat} (h : q < n) (hn : n % 2 = 0) : sg n t (n - 1 - q) = n - 1 - sg n t q := by
  unfold sg
  by_cases h1 : (q + t) % 2 = 0
  · rw [if_pos h1, if_neg (by omega)]
    split <;> omega
  · rw [if_neg h1, if_pos (by omega)]
    split <;> omega
theorem stepL_rev {L : List Int} (hn : L.length % 2 = 0) (t : Nat) : stepL L.reverse t = (stepL L t).reverse := by
  refine ext_getD (by rw [stepL_len, List.length_reverse, List.length_reverse, stepL_len]) fun q hq => ?_
  rw [stepL_len, List.length_reverse] at hq
  rw [stepL_get (by rw [List.length_reverse]; exact hq), List.length_reverse, getD_rev (sg_lt hq), getD_rev (by rw [stepL_len]; exact hq), stepL_len, stepL_get (by omega), sg_rev hq hn]
theorem lineAt_rev {ns : List Int} (hn : ns.length % 2 = 0) : ∀ t, lineAt ns.reverse t = (lineAt ns t).reverse
  | 0 => rfl
  | t + 1 => by
    show stepL (lineAt ns.reverse t) t = (stepL (lineAt ns t) t).reverse
    rw [lineAt_rev hn t, stepL_rev (by rw [lineAt_len]; exact hn)]
end Iv
set_option maxRecDepth 100000
set_option maxHeartbeats 4000000
/-! N2: one of some, drawn. -/
namespace Iv
open PySem PySem.Spec PyProof.Rows L2
def OfF (f : FI) : Prop := f.io = true ∧ ∀ (a s : Int) (xs : List Int), BagOk a s → 0 < xs.length → xs.length ≤ 1000 → ∃ x a' s', f.sem [bagD a s, intsL xs] = .io (.int x) false (bagD a' s') ∧ x ∈ xs ∧ BagOk a' s'
def ofC (t : Nat) : S := .seq (.ret (.ix (.v 1) (.call t (.cons (.v 0) (.cons (.bi .len (.cons (.v 1) .nil)) .nil))))) .nil
theorem sem_lawOf {cx : Ctx} {ft : FI} {t : Nat} (hf : cx.fs[t]? = some ft) (T : TakeOk ft) (a s : Int) (xs : List Int) (hb : BagOk a s) (h0 : 0 < xs.length) (h1 : xs.length ≤ 1000) : ∃ x a' s', run cx 2 true (ofC t) [bagD a s, intsL xs] = .io (.int x) false (bagD a' s') ∧ x ∈ xs ∧ BagOk a' s' := by
  obtain ⟨r, a', s', hs, r0, r1, ok⟩ := T.2 a s xs.length hb (by omega) (by omega)
  obtain ⟨k, rfl⟩ : ∃ k : Nat, r = k := ⟨r.toNat, by omega⟩
  have hk : k < xs.length := by omega
  have e1 : ev cx (.cons (.v 0) (.cons (.bi .len (.cons (.v 1) .nil)) .nil)) [.ow (bagD a s), .fz (intsL xs)] = .ok (.l [.o 0, .d (.int (xs.map PyData.int).length)], [.ow (bagD a s), .fz (intsL xs)]) := rfl
  rw [List.length_map] at e1
  have e2 : ev cx (.call t (.cons (.v 0) (.cons (.bi .len (.cons (.v 1) .nil)) .nil))) [.ow (bagD a s), .fz (intsL xs)] = .ok (.d (.int (k : Int)), [.ow (bagD a' s'), .fz (intsL xs)]) :=
    ev_callIo (i := 0) (rs := [.d (.int xs.length)]) (b := bagD a s) (ds := [.int xs.length]) (ρ2 := [.ow (bagD a s), .fz (intsL xs)]) (fr := false) hf T.1 e1 rfl rfl hs
  have e3 : ev cx (.ix (.v 1) (.call t (.cons (.v 0) (.cons (.bi .len (.cons (.v 1) .nil)) .nil)))) [.ow (bagD a s), .fz (intsL xs)] = .ok (.d (.int (xs.getD k 0)), [.ow (bagD a' s'), .fz (intsL xs)]) := by
    show ((ev cx (.call t (.cons (.v 0) (.cons (.bi .len (.cons (.v 1) .nil)) .nil))) [.ow (bagD a s), .fz (intsL xs)]).bd fun y ρ2 => got (some (intsL xs)) fun dx => got (read ρ2 y) fun dy => got (index dx dy) fun z => Iv.R.ok (z, ρ2)) = _
    rw [e2]
    show (got (index (intsL xs) (.int (k : Int))) fun z => Iv.R.ok (z, _)) = _
    rw [ix_int hk]
    rfl
  refine ⟨xs.getD k 0, a', s', runIo_rt (ρ0 := [.ow (bagD a s), .fz (intsL xs)]) rfl ⟨[.ow (bagD a' s'), .fz (intsL xs)], ?_, rfl⟩, getD_mem hk, ok⟩
  show (F.seq (lift (ev cx _ _) retF) _) = _
  rw [e3]
  rfl
structure K03 (cx : Ctx) : Prop where
  bg : ∃ f, cx.fs[0]? = some f ∧ BagF f
  tk : ∃ f, cx.fs[1]? = some f ∧ TakeOk f
  ln : ∃ f, cx.fs[2]? = some f ∧ LineOkF f
  lo : ∃ f, cx.fs[3]? = some f ∧ OfF f
  da : ∃ f, cx.fs[4]? = some f ∧ DancedF f
  af : ∃ f, cx.fs[12]? = some f ∧ AfterF f
  pi : ∃ f, cx.fs[14]? = some f ∧ PairsInF f
  wa : ∃ f, cx.fs[16]? = some f ∧ WaitF f
section
variable {cx : Ctx}
/-- the line after t rounds, from any code for the line and the number -/
theorem ev_after (K : K03 cx) {a b : C} {ρ : Env} {ns : List Int} {t : Nat} (h : LineOk ns) (ht : (t : Int) ≤ LATEST) (ha : ev cx a ρ = .ok (.d (intsT ns), ρ)) (hb : ev cx b ρ = .ok (.d (.int t), ρ)) : ev cx (.call 12 (.cons a (.cons b .nil))) ρ = .ok (.d (intsT (lineAt ns t)), ρ) := by
  obtain ⟨f, hf, Hf⟩ := K.af
  rw [ev_call (rs := [.d (intsT ns), .d (.int t)]) (ρ2 := ρ) hf Hf.1 (ev_cons ha (ev_cons hb rfl)) rfl, Hf.2 ns t h ht]
  rfl
theorem ev_v {i : Nat} {ρ : Env} {d : D} (h : get ρ i = .fz d) : ev cx (.v i) ρ = .ok (.d d, ρ) := by rw [ev, h]
theorem ev_revT {a : C} {ρ : Env} {ns : List Int} (h : ev cx a ρ = .ok (.d (intsT ns), ρ)) : ev cx (.rev a) ρ = .ok (.d (intsT ns.reverse), ρ) := by
  rw [ev, h, R.bd_ok]
  show (R.ok (Rv.d (.tuple (ns.map PyData.int).reverse), ρ) : R (Rv × Env)) = _
  rw [← List.map_reverse]
  rfl
theorem lineOk_rev {ns : List Int} (h : LineOk ns) : LineOk ns.reverse := ⟨by rw [List.length_reverse]; exact h.lo, by rw [List.length_reverse]; exact h.hi, fun x hx => h.rg x (List.mem_reverse.mp hx), (List.Perm.nodup_iff (List.reverse_perm ns)).mpr h.nd⟩
end
end Iv
set_option maxRecDepth 100000
set_option maxHeartbeats 4000000
/-! E0: code run step by step, for simp. -/
namespace Iv
open PySem PySem.Spec PyProof.Rows L2
def evV (s : Slot) (i : Nat) (ρ : Env) : R (Rv × Env) := match s with | .fz d => .ok (.d d, ρ) | .ow _ => .ok (.o i, ρ) | .no => .no
@[simp] theorem evV_fz {d : D} {i : Nat} {ρ : Env} : evV (.fz d) i ρ = .ok (.d d, ρ) := nr rfl
@[simp] theorem evV_ow {d : D} {i : Nat} {ρ : Env} : evV (.ow d) i ρ = .ok (.o i, ρ) := nr rfl
def rdS : Slot → Option D | .ow d => some d | .fz d => some d | .no => none
@[simp] theorem rdS_fz {d : D} : rdS (.fz d) = some d := nr rfl
@[simp] theorem rdS_ow {d : D} : rdS (.ow d) = some d := nr rfl
def escS (s : Slot) (i : Nat) (ρ : Env) : Option (D × Env) := match s with | .ow d => some (d, ρ.set i (.fz d)) | .fz d => some (d, ρ) | .no => none
@[simp] theorem escS_fz {d : D} {i : Nat} {ρ : Env} : escS (.fz d) i ρ = some (d, ρ) := nr rfl
@[simp] theorem escS_ow {d : D} {i : Nat} {ρ : Env} : escS (.ow d) i ρ = some (d, ρ.set i (.fz d)) := nr rfl
section
variable {cx : Ctx} {ρ : Env}
@[simp] theorem read_d {d : D} : read ρ (.d d) = some d := nr rfl
@[simp] theorem read_f {d : D} : read ρ (.f d) = some d := nr rfl
@[simp] theorem read_o {i : Nat} : read ρ (.o i) = rdS (get ρ i) := nr rfl
@[simp] theorem esc_d {d : D} : esc ρ (.d d) = some (d, ρ) := nr rfl
@[simp] theorem esc_f {d : D} : esc ρ (.f d) = some (d, ρ) := nr rfl
@[simp] theorem esc_o {i : Nat} : esc ρ (.o i) = escS (get ρ i) i ρ := nr rfl
@[simp] theorem reads_nil : reads ρ [] = some [] := nr rfl
def rdK (o : Option D) (p : Option (List D)) : Option (List D) := o.bind fun d => p.bind fun ds => some (d :: ds)
@[simp] theorem rdK_some {d : D} {ds : List D} : rdK (some d) (some ds) = some (d :: ds) := nr rfl
@[simp] theorem reads_cons {r : Rv} {rs : List Rv} : reads ρ (r :: rs) = rdK (read ρ r) (reads ρ rs) := nr rfl
@[simp] theorem escs_nil : escs ρ [] = some ([], ρ) := nr rfl
def esK2 (d : D) (o : Option (List D × Env)) : Option (List D × Env) := o.bind fun q => some (d :: q.1, q.2)
def esK (o : Option (D × Env)) (rs : List Rv) : Option (List D × Env) := o.bind fun p => esK2 p.1 (escs p.2 rs)
@[simp] theorem esK2_some {d : D} {ds : List D} {ρ : Env} : esK2 d (some (ds, ρ)) = some (d :: ds, ρ) := nr rfl
@[simp] theorem esK_some {d : D} {ρ : Env} {rs : List Rv} : esK (some (d, ρ)) rs = esK2 d (escs ρ rs) := nr rfl
@[simp] theorem escs_cons {r : Rv} {rs : List Rv} : escs ρ (r :: rs) = esK (esc ρ r) rs := nr rfl
@[simp] theorem listOf_l {rs : List Rv} : listOf (.l rs) = some rs := nr rfl
@[simp] theorem boolOf_d {b : Bool} : boolOf ρ (.d (.bool b)) = some b := nr rfl
@[simp] theorem tupOf_t {xs : List D} : tupOf (.tuple xs) = some xs := nr rfl
@[simp] theorem intOf_i {i : Int} : intOf (.int i) = some i := nr rfl
@[simp] theorem owOf_ow {d : D} : owOf (.ow d) = some d := nr rfl
@[simp] theorem lstOf_ow {xs : List D} : lstOf (.ow (.list xs)) = some xs := nr rfl
@[simp] theorem fzI_fz {i : Int} : fzI (.fz (.int i)) = some i := nr rfl
@[simp] theorem truth_b {b : Bool} : truth (.bool b) = some b := nr rfl
@[simp] theorem store_d {i : Nat} {d : D} : store i (.d d) ρ = some (ρ.set i (.fz d)) := nr rfl
@[simp] theorem store_f {i : Nat} {d : D} : store i (.f d) ρ = some (ρ.set i (.ow d)) := nr rfl
def stK (i : Nat) (o : Option (D × Env)) : Option Env := o.map fun p => p.2.set i (.fz p.1)
@[simp] theorem stK_some {i : Nat} {d : D} {ρ : Env} : stK i (some (d, ρ)) = some (ρ.set i (.fz d)) := nr rfl
@[simp] theorem store_o {i j : Nat} : store i (.o j) ρ = stK i (esc ρ (.o j)) := nr rfl
@[simp] theorem store1_d {i : Nat} {d : D} : store1 i (.d d) ρ = some (ρ.set i (.fz d)) := nr rfl
@[simp] theorem store1_f {i : Nat} {d : D} : store1 i (.f d) ρ = some (ρ.set i (.ow d)) := nr rfl
@[simp] theorem stores_nil : stores [] [] ρ = some ρ := nr rfl
@[simp] theorem stores_cons {i : Nat} {is : List Nat} {r : Rv} {rs : List Rv} : stores (i :: is) (r :: rs) ρ = (store1 i r ρ).bind (stores is rs) := nr rfl
@[simp] theorem setAll_nil : setAll ρ [] [] = some ρ := nr rfl
@[simp] theorem setAll_cons {i : Nat} {is : List Nat} {d : D} {ds : List D} : setAll ρ (i :: is) (d :: ds) = setAll (ρ.set i (.fz d)) is ds := nr rfl
@[simp] theorem bindT_n {i : Nat} {d : D} : bindT ρ (.n i) d = some (ρ.set i (.fz d)) := nr rfl
@[simp] theorem bindT_t {is : List Nat} {ds : List D} : bindT ρ (.t is) (.tuple ds) = setAll ρ is ds := nr rfl
/-! sizes -/
@[simp] theorem le_big0 : 0 ≤ big := by decide
@[simp] theorem lt_big0 : 0 < big := by decide
@[simp] theorem le_big1 : 1 ≤ big := by decide
@[simp] theorem lt_big1 : 1 < big := by decide
@[simp] theorem le_big2 : 2 ≤ big := by decide
@[simp] theorem lt_big2 : 2 < big := by decide
@[simp] theorem le_big3 : 3 ≤ big := by decide
@[simp] theorem lt_big3 : 3 < big := by decide
@[simp] theorem le_big4 : 4 ≤ big := by decide
@[simp] theorem lt_big4 : 4 < big := by decide
@[simp] theorem le_big5 : 5 ≤ big := by decide
@[simp] theorem lt_big5 : 5 < big := by decide
@[simp] theorem le_big6 : 6 ≤ big := by decide
@[simp] theorem lt_big6 : 6 < big := by decide
@[simp] theorem le_big7 : 7 ≤ big := by decide
@[simp] theorem lt_big7 : 7 < big := by decide
@[simp] theorem le_big8 : 8 ≤ big := by decide
@[simp] theorem lt_big8 : 8 < big := by decide
@[simp] theorem le_big9 : 9 ≤ big := by decide
@[simp] theorem lt_big9 : 9 < big := by decide
@[simp] theorem le_big10 : 10 ≤ big := by decide
@[simp] theorem lt_big10 : 10 < big := by decide
@[simp] theorem le_big11 : 11 ≤ big := by decide
@[simp] theorem lt_big11 : 11 < big := by decide
@[simp] theorem le_big12 : 12 ≤ big := by decide
@[simp] theorem lt_big12 : 12 < big := by decide
@[simp] theorem le_big13 : 13 ≤ big := by decide
@[simp] theorem lt_big13 : 13 < big := by decide
@[simp] theorem le_big14 : 14 ≤ big := by decide
@[simp] theorem lt_big14 : 14 < big := by decide
@[simp] theorem le_big15 : 15 ≤ big := by decide
@[simp] theorem lt_big15 : 15 < big := by decide
theorem le_bigS {n : Nat} (h : n ≤ 100000) : n ≤ big := Nat.le_trans h (by decide)
theorem lt_bigS {n : Nat} (h : n ≤ 100000) : n < big := Nat.lt_of_le_of_lt h (by decide)
def lim : Nat := 1000000000000000
theorem limN : lim = 1000000000000000 := rfl
end
/-! ### expressions: what is left to do, told without binders -/
abbrev RE := R (Rv × Env)
def kCons3 (o : Option (List Rv)) (x0 : Rv) (ρ : Env) : RE := got o fun ys => .ok (.l (x0 :: ys), ρ)
@[simp] theorem kCons3_some {ys : (List Rv)} {x0 : Rv} {ρ : Env} : kCons3 (some ys) x0 ρ = .ok (.l (x0 :: ys), ρ) := nr rfl
def kCons2 (r : RE) (x0 : Rv) : RE := r.bd fun x ρ1 => kCons3 (listOf x) x0 ρ1
@[simp] theorem kCons2_ok {x : Rv} {ρ1 : Env} {x0 : Rv} : kCons2 (.ok (x, ρ1)) x0 = kCons3 (listOf x) x0 ρ1 := nr rfl
@[simp] theorem kCons2_er {x : Str} {x0 : Rv} : kCons2 (.er x) x0 = .er x := nr rfl
def kCons (r : RE) (cx : Ctx) (b : C) : RE := r.bd fun x ρ1 => kCons2 (ev cx b ρ1) x
@[simp] theorem kCons_ok {x : Rv} {ρ1 : Env} {cx : Ctx} {b : C} : kCons (.ok (x, ρ1)) cx b = kCons2 (ev cx b ρ1) x := nr rfl
@[simp] theorem kCons_er {x : Str} {cx : Ctx} {b : C} : kCons (.er x) cx b = .er x := nr rfl
def kOp5 (o : Option Rv) (ρ : Env) : RE := got o fun z => .ok (z, ρ)
@[simp] theorem kOp5_some {z : Rv} {ρ : Env} : kOp5 (some z) ρ = .ok (z, ρ) := nr rfl
def kOp4 (o : Option D) (op : Operator) (dx : D) (ρ : Env) : RE := got o fun dy => kOp5 (binop op dx dy) ρ
@[simp] theorem kOp4_some {dy : D} {op : Operator} {dx : D} {ρ : Env} : kOp4 (some dy) op dx ρ = kOp5 (binop op dx dy) ρ := nr rfl
def kOp3 (o : Option D) (op : Operator) (y : Option D) (ρ : Env) : RE := got o fun dx => kOp4 y op dx ρ
@[simp] theorem kOp3_some {dx : D} {op : Operator} {y : Option D} {ρ : Env} : kOp3 (some dx) op y ρ = kOp4 y op dx ρ := nr rfl
def kOp2 (r : RE) (op : Operator) (x0 : Rv) : RE := r.bd fun x ρ1 => kOp3 (read ρ1 x0) op (read ρ1 x) ρ1
@[simp] theorem kOp2_ok {x : Rv} {ρ1 : Env} {op : Operator} {x0 : Rv} : kOp2 (.ok (x, ρ1)) op x0 = kOp3 (read ρ1 x0) op (read ρ1 x) ρ1 := nr rfl
@[simp] theorem kOp2_er {x : Str} {op : Operator} {x0 : Rv} : kOp2 (.er x) op x0 = .er x := nr rfl
def kOp (r : RE) (cx : Ctx) (op : Operator) (b : C) : RE := r.bd fun x ρ1 => kOp2 (ev cx b ρ1) op x
@[simp] theorem kOp_ok {x : Rv} {ρ1 : Env} {cx : Ctx} {op : Operator} {b : C} : kOp (.ok (x, ρ1)) cx op b = kOp2 (ev cx b ρ1) op x := nr rfl
@[simp] theorem kOp_er {x : Str} {cx : Ctx} {op : Operator} {b : C} : kOp (.er x) cx op b = .er x := nr rfl
def kNeg3 (o : Option Int) (ρ : Env) : RE := got o fun i => .ok (.d (.int (-i)), ρ)
@[simp] theorem kNeg3_some {i : Int} {ρ : Env} : kNeg3 (some i) ρ = .ok (.d (.int (-i)), ρ) := nr rfl
def kNeg2 (o : Option D) (ρ : Env) : RE := got o fun d => kNeg3 (intOf d) ρ
@[simp] theorem kNeg2_some {d : D} {ρ : Env} : kNeg2 (some d) ρ = kNeg3 (intOf d) ρ := nr rfl
def kNeg (r : RE)  : RE := r.bd fun x ρ1 => kNeg2 (read ρ1 x) ρ1
@[simp] theorem kNeg_ok {x : Rv} {ρ1 : Env}  : kNeg (.ok (x, ρ1))  = kNeg2 (read ρ1 x) ρ1 := nr rfl
@[simp] theorem kNeg_er {x : Str}  : kNeg (.er x)  = .er x := nr rfl
def kPt3 (o : Option Int) (ρ : Env) : RE := got o fun i => .ok (.d (.int i), ρ)
@[simp] theorem kPt3_some {i : Int} {ρ : Env} : kPt3 (some i) ρ = .ok (.d (.int i), ρ) := nr rfl
def kPt2 (o : Option D) (ρ : Env) : RE := got o fun d => kPt3 (intOf d) ρ
@[simp] theorem kPt2_some {d : D} {ρ : Env} : kPt2 (some d) ρ = kPt3 (intOf d) ρ := nr rfl
def kPt (r : RE)  : RE := r.bd fun x ρ1 => kPt2 (read ρ1 x) ρ1
@[simp] theorem kPt_ok {x : Rv} {ρ1 : Env}  : kPt (.ok (x, ρ1))  = kPt2 (read ρ1 x) ρ1 := nr rfl
@[simp] theorem kPt_er {x : Str}  : kPt (.er x)  = .er x := nr rfl
def kB (o : Option Bool) (ρ : Env) : RE := got o fun z => .ok (.d (.bool z), ρ)
@[simp] theorem kB_some {z : Bool} {ρ : Env} : kB (some z) ρ = .ok (.d (.bool z), ρ) := nr rfl
def kCm4 (o : Option D) (op : CmpOp) (dx : D) (ρ : Env) : RE := got o fun dy => kB (cmpop op dx dy) ρ
@[simp] theorem kCm4_some {dy : D} {op : CmpOp} {dx : D} {ρ : Env} : kCm4 (some dy) op dx ρ = kB (cmpop op dx dy) ρ := nr rfl
def kCm3 (o : Option D) (op : CmpOp) (y : Option D) (ρ : Env) : RE := got o fun dx => kCm4 y op dx ρ
@[simp] theorem kCm3_some {dx : D} {op : CmpOp} {y : Option D} {ρ : Env} : kCm3 (some dx) op y ρ = kCm4 y op dx ρ := nr rfl
def kCm2 (r : RE) (op : CmpOp) (x0 : Rv) : RE := r.bd fun x ρ1 => kCm3 (read ρ1 x0) op (read ρ1 x) ρ1
@[simp] theorem kCm2_ok {x : Rv} {ρ1 : Env} {op : CmpOp} {x0 : Rv} : kCm2 (.ok (x, ρ1)) op x0 = kCm3 (read ρ1 x0) op (read ρ1 x) ρ1 := nr rfl
@[simp] theorem kCm2_er {x : Str} {op : CmpOp} {x0 : Rv} : kCm2 (.er x) op x0 = .er x := nr rfl
def kCm (r : RE) (cx : Ctx) (op : CmpOp) (b : C) : RE := r.bd fun x ρ1 => kCm2 (ev cx b ρ1) op x
@[simp] theorem kCm_ok {x : Rv} {ρ1 : Env} {cx : Ctx} {op : CmpOp} {b : C} : kCm (.ok (x, ρ1)) cx op b = kCm2 (ev cx b ρ1) op x := nr rfl
@[simp] theorem kCm_er {x : Str} {cx : Ctx} {op : CmpOp} {b : C} : kCm (.er x) cx op b = .er x := nr rfl
def chB (z : Bool) (cx : Ctx) (op : CmpOp) (c : C) (y : Rv) (ρ : Env) : RE := match z with | true => kCm2 (ev cx c ρ) op y | false => .ok (.d (.bool false), ρ)
@[simp] theorem chB_t {cx : Ctx} {op : CmpOp} {c : C} {y : Rv} {ρ : Env} : chB true cx op c y ρ = kCm2 (ev cx c ρ) op y := nr rfl
@[simp] theorem chB_f {cx : Ctx} {op : CmpOp} {c : C} {y : Rv} {ρ : Env} : chB false cx op c y ρ = .ok (.d (.bool false), ρ) := nr rfl
def kCh5 (o : Option Bool) (cx : Ctx) (op2 : CmpOp) (c : C) (y : Rv) (ρ : Env) : RE := got o fun z => chB z cx op2 c y ρ
@[simp] theorem kCh5_some {z : Bool} {cx : Ctx} {op2 : CmpOp} {c : C} {y : Rv} {ρ : Env} : kCh5 (some z) cx op2 c y ρ = chB z cx op2 c y ρ := nr rfl
def kCh4 (o : Option D) (cx : Ctx) (op : CmpOp) (op2 : CmpOp) (c : C) (dx : D) (y : Rv) (ρ : Env) : RE := got o fun dy => kCh5 (cmpop op dx dy) cx op2 c y ρ
@[simp] theorem kCh4_some {dy : D} {cx : Ctx} {op : CmpOp} {op2 : CmpOp} {c : C} {dx : D} {y : Rv} {ρ : Env} : kCh4 (some dy) cx op op2 c dx y ρ = kCh5 (cmpop op dx dy) cx op2 c y ρ := nr rfl
def kCh3 (o : Option D) (cx : Ctx) (op : CmpOp) (op2 : CmpOp) (c : C) (y : Rv) (yd : Option D) (ρ : Env) : RE := got o fun dx => kCh4 yd cx op op2 c dx y ρ
@[simp] theorem kCh3_some {dx : D} {cx : Ctx} {op : CmpOp} {op2 : CmpOp} {c : C} {y : Rv} {yd : Option D} {ρ : Env} : kCh3 (some dx) cx op op2 c y yd ρ = kCh4 yd cx op op2 c dx y ρ := nr rfl
def kCh2 (r : RE) (cx : Ctx) (op : CmpOp) (op2 : CmpOp) (c : C) (x0 : Rv) : RE := r.bd fun x ρ1 => kCh3 (read ρ1 x0) cx op op2 c x (read ρ1 x) ρ1
@[simp] theorem kCh2_ok {x : Rv} {ρ1 : Env} {cx : Ctx} {op : CmpOp} {op2 : CmpOp} {c : C} {x0 : Rv} : kCh2 (.ok (x, ρ1)) cx op op2 c x0 = kCh3 (read ρ1 x0) cx op op2 c x (read ρ1 x) ρ1 := nr rfl
@[simp] theorem kCh2_er {x : Str} {cx : Ctx} {op : CmpOp} {op2 : CmpOp} {c : C} {x0 : Rv} : kCh2 (.er x) cx op op2 c x0 = .er x := nr rfl
def kCh (r : RE) (cx : Ctx) (op : CmpOp) (op2 : CmpOp) (b : C) (c : C) : RE := r.bd fun x ρ1 => kCh2 (ev cx b ρ1) cx op op2 c x
@[simp] theorem kCh_ok {x : Rv} {ρ1 : Env} {cx : Ctx} {op : CmpOp} {op2 : CmpOp} {b : C} {c : C} : kCh (.ok (x, ρ1)) cx op op2 b c = kCh2 (ev cx b ρ1) cx op op2 c x := nr rfl
@[simp] theorem kCh_er {x : Str} {cx : Ctx} {op : CmpOp} {op2 : CmpOp} {b : C} {c : C} : kCh (.er x) cx op op2 b c = .er x := nr rfl
def kNot3 (o : Option Bool) (ρ : Env) : RE := got o fun b => .ok (.d (.bool (!b)), ρ)
@[simp] theorem kNot3_some {b : Bool} {ρ : Env} : kNot3 (some b) ρ = .ok (.d (.bool (!b)), ρ) := nr rfl
def kNot2 (o : Option D) (ρ : Env) : RE := got o fun d => kNot3 (truth d) ρ
@[simp] theorem kNot2_some {d : D} {ρ : Env} : kNot2 (some d) ρ = kNot3 (truth d) ρ := nr rfl
def kNotv (r : RE)  : RE := r.bd fun x ρ1 => kNot2 (read ρ1 x) ρ1
@[simp] theorem kNotv_ok {x : Rv} {ρ1 : Env}  : kNotv (.ok (x, ρ1))  = kNot2 (read ρ1 x) ρ1 := nr rfl
@[simp] theorem kNotv_er {x : Str}  : kNotv (.er x)  = .er x := nr rfl
def kTr2 (o : Option D) (ρ : Env) : RE := got o fun d => kB (truth d) ρ
@[simp] theorem kTr2_some {d : D} {ρ : Env} : kTr2 (some d) ρ = kB (truth d) ρ := nr rfl
def kTr (r : RE)  : RE := r.bd fun x ρ1 => kTr2 (read ρ1 x) ρ1
@[simp] theorem kTr_ok {x : Rv} {ρ1 : Env}  : kTr (.ok (x, ρ1))  = kTr2 (read ρ1 x) ρ1 := nr rfl
@[simp] theorem kTr_er {x : Str}  : kTr (.er x)  = .er x := nr rfl
def kNott (r : RE)  : RE := r.bd fun x ρ1 => kNot3 (boolOf ρ1 x) ρ1
@[simp] theorem kNott_ok {x : Rv} {ρ1 : Env}  : kNott (.ok (x, ρ1))  = kNot3 (boolOf ρ1 x) ρ1 := nr rfl
@[simp] theorem kNott_er {x : Str}  : kNott (.er x)  = .er x := nr rfl
def andB (z : Bool) (cx : Ctx) (b : C) (ρ : Env) : RE := match z with | true => ev cx b ρ | false => .ok (.d (.bool false), ρ)
@[simp] theorem andB_t {cx : Ctx} {b : C} {ρ : Env} : andB true cx b ρ = ev cx b ρ := nr rfl
@[simp] theorem andB_f {cx : Ctx} {b : C} {ρ : Env} : andB false cx b ρ = .ok (.d (.bool false), ρ) := nr rfl
def kand2 (o : Option Bool) (cx : Ctx) (b : C) (ρ : Env) : RE := got o fun z => andB z cx b ρ
@[simp] theorem kand2_some {z : Bool} {cx : Ctx} {b : C} {ρ : Env} : kand2 (some z) cx b ρ = andB z cx b ρ := nr rfl
def kand (r : RE) (cx : Ctx) (b : C) : RE := r.bd fun x ρ1 => kand2 (boolOf ρ1 x) cx b ρ1
@[simp] theorem kand_ok {x : Rv} {ρ1 : Env} {cx : Ctx} {b : C} : kand (.ok (x, ρ1)) cx b = kand2 (boolOf ρ1 x) cx b ρ1 := nr rfl
@[simp] theorem kand_er {x : Str} {cx : Ctx} {b : C} : kand (.er x) cx b = .er x := nr rfl
def orB (z : Bool) (cx : Ctx) (b : C) (ρ : Env) : RE := match z with | true => .ok (.d (.bool true), ρ) | false => ev cx b ρ
@[simp] theorem orB_t {cx : Ctx} {b : C} {ρ : Env} : orB true cx b ρ = .ok (.d (.bool true), ρ) := nr rfl
@[simp] theorem orB_f {cx : Ctx} {b : C} {ρ : Env} : orB false cx b ρ = ev cx b ρ := nr rfl
def kor2 (o : Option Bool) (cx : Ctx) (b : C) (ρ : Env) : RE := got o fun z => orB z cx b ρ
@[simp] theorem kor2_some {z : Bool} {cx : Ctx} {b : C} {ρ : Env} : kor2 (some z) cx b ρ = orB z cx b ρ := nr rfl
def kor (r : RE) (cx : Ctx) (b : C) : RE := r.bd fun x ρ1 => kor2 (boolOf ρ1 x) cx b ρ1
@[simp] theorem kor_ok {x : Rv} {ρ1 : Env} {cx : Ctx} {b : C} : kor (.ok (x, ρ1)) cx b = kor2 (boolOf ρ1 x) cx b ρ1 := nr rfl
@[simp] theorem kor_er {x : Str} {cx : Ctx} {b : C} : kor (.er x) cx b = .er x := nr rfl
def ifE (z : Bool) (cx : Ctx) (a b : C) (ρ : Env) : RE := match z with | true => ev cx a ρ | false => ev cx b ρ
@[simp] theorem ifE_t {cx : Ctx} {a b : C} {ρ : Env} : ifE true cx a b ρ = ev cx a ρ := nr rfl
@[simp] theorem ifE_f {cx : Ctx} {a b : C} {ρ : Env} : ifE false cx a b ρ = ev cx b ρ := nr rfl
def kIf2 (o : Option Bool) (cx : Ctx) (a : C) (b : C) (ρ : Env) : RE := got o fun z => ifE z cx a b ρ
@[simp] theorem kIf2_some {z : Bool} {cx : Ctx} {a : C} {b : C} {ρ : Env} : kIf2 (some z) cx a b ρ = ifE z cx a b ρ := nr rfl
def kIf (r : RE) (cx : Ctx) (a : C) (b : C) : RE := r.bd fun x ρ1 => kIf2 (boolOf ρ1 x) cx a b ρ1
@[simp] theorem kIf_ok {x : Rv} {ρ1 : Env} {cx : Ctx} {a : C} {b : C} : kIf (.ok (x, ρ1)) cx a b = kIf2 (boolOf ρ1 x) cx a b ρ1 := nr rfl
@[simp] theorem kIf_er {x : Str} {cx : Ctx} {a : C} {b : C} : kIf (.er x) cx a b = .er x := nr rfl
def kTup4 (ds : List D) (ρ : Env) : RE := if ds.length ≤ big then .ok (.d (.tuple ds), ρ) else .no
@[simp] theorem kTup4_ok {ds : List D} {ρ : Env} (h : ds.length ≤ big) : kTup4 ds ρ = .ok (.d (.tuple ds), ρ) := if_pos h
def kTup3 (o : Option (List D × Env)) : RE := got o fun p => kTup4 p.1 p.2
@[simp] theorem kTup3_some {ds : List D} {ρ : Env} : kTup3 (some (ds, ρ)) = kTup4 ds ρ := nr rfl
def kTup2 (o : Option (List Rv)) (ρ : Env) : RE := got o fun rs => kTup3 (escs ρ rs)
@[simp] theorem kTup2_some {rs : (List Rv)} {ρ : Env} : kTup2 (some rs) ρ = kTup3 (escs ρ rs) := nr rfl
def kTup (r : RE)  : RE := r.bd fun x ρ1 => kTup2 (listOf x) ρ1
@[simp] theorem kTup_ok {x : Rv} {ρ1 : Env}  : kTup (.ok (x, ρ1))  = kTup2 (listOf x) ρ1 := nr rfl
@[simp] theorem kTup_er {x : Str}  : kTup (.er x)  = .er x := nr rfl
def kLst4 (ds : List D) (ρ : Env) : RE := if ds.length ≤ big then .ok (.f (.list ds), ρ) else .no
@[simp] theorem kLst4_ok {ds : List D} {ρ : Env} (h : ds.length ≤ big) : kLst4 ds ρ = .ok (.f (.list ds), ρ) := if_pos h
def kLst3 (o : Option (List D × Env)) : RE := got o fun p => kLst4 p.1 p.2
@[simp] theorem kLst3_some {ds : List D} {ρ : Env} : kLst3 (some (ds, ρ)) = kLst4 ds ρ := nr rfl
def kLst2 (o : Option (List Rv)) (ρ : Env) : RE := got o fun rs => kLst3 (escs ρ rs)
@[simp] theorem kLst2_some {rs : (List Rv)} {ρ : Env} : kLst2 (some rs) ρ = kLst3 (escs ρ rs) := nr rfl
def kLst (r : RE)  : RE := r.bd fun x ρ1 => kLst2 (listOf x) ρ1
@[simp] theorem kLst_ok {x : Rv} {ρ1 : Env}  : kLst (.ok (x, ρ1))  = kLst2 (listOf x) ρ1 := nr rfl
@[simp] theorem kLst_er {x : Str}  : kLst (.er x)  = .er x := nr rfl
def kIx4 (o : Option D) (dx : D) (ρ : Env) : RE := got o fun dy => kOp5 (index dx dy) ρ
@[simp] theorem kIx4_some {dy : D} {dx : D} {ρ : Env} : kIx4 (some dy) dx ρ = kOp5 (index dx dy) ρ := nr rfl
def kIx3 (o : Option D) (y : Option D) (ρ : Env) : RE := got o fun dx => kIx4 y dx ρ
@[simp] theorem kIx3_some {dx : D} {y : Option D} {ρ : Env} : kIx3 (some dx) y ρ = kIx4 y dx ρ := nr rfl
def kIx2 (r : RE) (x0 : Rv) : RE := r.bd fun x ρ1 => kIx3 (read ρ1 x0) (read ρ1 x) ρ1
@[simp] theorem kIx2_ok {x : Rv} {ρ1 : Env} {x0 : Rv} : kIx2 (.ok (x, ρ1)) x0 = kIx3 (read ρ1 x0) (read ρ1 x) ρ1 := nr rfl
@[simp] theorem kIx2_er {x : Str} {x0 : Rv} : kIx2 (.er x) x0 = .er x := nr rfl
def kIx (r : RE) (cx : Ctx) (b : C) : RE := r.bd fun x ρ1 => kIx2 (ev cx b ρ1) x
@[simp] theorem kIx_ok {x : Rv} {ρ1 : Env} {cx : Ctx} {b : C} : kIx (.ok (x, ρ1)) cx b = kIx2 (ev cx b ρ1) x := nr rfl
@[simp] theorem kIx_er {x : Str} {cx : Ctx} {b : C} : kIx (.er x) cx b = .er x := nr rfl
def kSl6 (o : Option D) (dx : D) (dy : D) (ρ : Env) : RE := got o fun dz => kOp5 (slice dx dy dz) ρ
@[simp] theorem kSl6_some {dz : D} {dx : D} {dy : D} {ρ : Env} : kSl6 (some dz) dx dy ρ = kOp5 (slice dx dy dz) ρ := nr rfl
def kSl5 (o : Option D) (dx : D) (z : Option D) (ρ : Env) : RE := got o fun dy => kSl6 z dx dy ρ
@[simp] theorem kSl5_some {dy : D} {dx : D} {z : Option D} {ρ : Env} : kSl5 (some dy) dx z ρ = kSl6 z dx dy ρ := nr rfl
def kSl4 (o : Option D) (y : Option D) (z : Option D) (ρ : Env) : RE := got o fun dx => kSl5 y dx z ρ
@[simp] theorem kSl4_some {dx : D} {y : Option D} {z : Option D} {ρ : Env} : kSl4 (some dx) y z ρ = kSl5 y dx z ρ := nr rfl
def kSl3 (r : RE) (x0 : Rv) (y0 : Rv) : RE := r.bd fun x ρ1 => kSl4 (read ρ1 x0) (read ρ1 y0) (read ρ1 x) ρ1
@[simp] theorem kSl3_ok {x : Rv} {ρ1 : Env} {x0 : Rv} {y0 : Rv} : kSl3 (.ok (x, ρ1)) x0 y0 = kSl4 (read ρ1 x0) (read ρ1 y0) (read ρ1 x) ρ1 := nr rfl
@[simp] theorem kSl3_er {x : Str} {x0 : Rv} {y0 : Rv} : kSl3 (.er x) x0 y0 = .er x := nr rfl
def kSl2 (r : RE) (cx : Ctx) (hi : C) (x0 : Rv) : RE := r.bd fun x ρ1 => kSl3 (ev cx hi ρ1) x0 x
@[simp] theorem kSl2_ok {x : Rv} {ρ1 : Env} {cx : Ctx} {hi : C} {x0 : Rv} : kSl2 (.ok (x, ρ1)) cx hi x0 = kSl3 (ev cx hi ρ1) x0 x := nr rfl
@[simp] theorem kSl2_er {x : Str} {cx : Ctx} {hi : C} {x0 : Rv} : kSl2 (.er x) cx hi x0 = .er x := nr rfl
def kSl (r : RE) (cx : Ctx) (lo : C) (hi : C) : RE := r.bd fun x ρ1 => kSl2 (ev cx lo ρ1) cx hi x
@[simp] theorem kSl_ok {x : Rv} {ρ1 : Env} {cx : Ctx} {lo : C} {hi : C} : kSl (.ok (x, ρ1)) cx lo hi = kSl2 (ev cx lo ρ1) cx hi x := nr rfl
@[simp] theorem kSl_er {x : Str} {cx : Ctx} {lo : C} {hi : C} : kSl (.er x) cx lo hi = .er x := nr rfl
def kRev2 (o : Option D) (ρ : Env) : RE := got o fun d => kOp5 (reverse d) ρ
@[simp] theorem kRev2_some {d : D} {ρ : Env} : kRev2 (some d) ρ = kOp5 (reverse d) ρ := nr rfl
def kRev (r : RE)  : RE := r.bd fun x ρ1 => kRev2 (read ρ1 x) ρ1
@[simp] theorem kRev_ok {x : Rv} {ρ1 : Env}  : kRev (.ok (x, ρ1))  = kRev2 (read ρ1 x) ρ1 := nr rfl
@[simp] theorem kRev_er {x : Str}  : kRev (.er x)  = .er x := nr rfl
def kCall2 (o : Option (List Rv)) (cx : Ctx) (f : Nat) (ρ : Env) : RE := got o fun rs => callF cx f rs ρ
@[simp] theorem kCall2_some {rs : (List Rv)} {cx : Ctx} {f : Nat} {ρ : Env} : kCall2 (some rs) cx f ρ = callF cx f rs ρ := nr rfl
def kCall (r : RE) (cx : Ctx) (f : Nat) : RE := r.bd fun x ρ1 => kCall2 (listOf x) cx f ρ1
@[simp] theorem kCall_ok {x : Rv} {ρ1 : Env} {cx : Ctx} {f : Nat} : kCall (.ok (x, ρ1)) cx f = kCall2 (listOf x) cx f ρ1 := nr rfl
@[simp] theorem kCall_er {x : Str} {cx : Ctx} {f : Nat} : kCall (.er x) cx f = .er x := nr rfl
def kBi3 (o : Option (List D)) (b : Bi) (ρ : Env) : RE := got o fun ds => kOp5 (builtin b ds) ρ
@[simp] theorem kBi3_some {ds : (List D)} {b : Bi} {ρ : Env} : kBi3 (some ds) b ρ = kOp5 (builtin b ds) ρ := nr rfl
def kBi2 (o : Option (List Rv)) (b : Bi) (ρ : Env) : RE := got o fun rs => kBi3 (reads ρ rs) b ρ
@[simp] theorem kBi2_some {rs : (List Rv)} {b : Bi} {ρ : Env} : kBi2 (some rs) b ρ = kBi3 (reads ρ rs) b ρ := nr rfl
def kBi (r : RE) (b : Bi) : RE := r.bd fun x ρ1 => kBi2 (listOf x) b ρ1
@[simp] theorem kBi_ok {x : Rv} {ρ1 : Env} {b : Bi} : kBi (.ok (x, ρ1)) b = kBi2 (listOf x) b ρ1 := nr rfl
@[simp] theorem kBi_er {x : Str} {b : Bi} : kBi (.er x) b = .er x := nr rfl
section
variable {cx : Ctx} {ρ : Env}
@[simp] theorem e_v {i : Nat} : ev cx (.v i) ρ = evV (get ρ i) i ρ := nr rfl
@[simp] theorem e_k {d : D} : ev cx (.k d) ρ = .ok (.d d, ρ) := nr rfl
@[simp] theorem e_nil : ev cx .nil ρ = .ok (.l [], ρ) := nr rfl
@[simp] theorem e_cons {a b : C} : ev cx (.cons a b) ρ = kCons (ev cx a ρ) cx b := nr rfl
@[simp] theorem e_op {o : Operator} {a b : C} : ev cx (.op o a b) ρ = kOp (ev cx a ρ) cx o b := nr rfl
@[simp] theorem e_neg {a : C} : ev cx (.neg a) ρ = kNeg (ev cx a ρ) := nr rfl
@[simp] theorem e_cmp {o : CmpOp} {a b : C} : ev cx (.cmp o a b) ρ = kCm (ev cx a ρ) cx o b := nr rfl
@[simp] theorem e_ch {o o' : CmpOp} {a b c : C} : ev cx (.ch o o' a b c) ρ = kCh (ev cx a ρ) cx o o' b c := by
  rw [ev]
  unfold kCh kCh2 kCh3 kCh4 kCh5
  congr; funext x ρ1; congr; funext y ρ2; congr; funext dx; congr; funext dy; congr; funext z
  cases z <;> rfl
@[simp] theorem e_notv {a : C} : ev cx (.notv a) ρ = kNotv (ev cx a ρ) := nr rfl
@[simp] theorem e_andv {a b : C} : ev cx (.andv a b) ρ = kand (ev cx a ρ) cx b := by
  rw [ev]
  unfold kand kand2
  congr
@[simp] theorem e_orv {a b : C} : ev cx (.orv a b) ρ = kor (ev cx a ρ) cx b := by
  rw [ev]
  unfold kor kor2
  congr
@[simp] theorem e_tr {a : C} : ev cx (.tr a) ρ = kTr (ev cx a ρ) := nr rfl
@[simp] theorem e_nott {a : C} : ev cx (.nott a) ρ = kNott (ev cx a ρ) := nr rfl
@[simp] theorem e_andt {a b : C} : ev cx (.andt a b) ρ = kand (ev cx a ρ) cx b := by
  rw [ev]
  unfold kand kand2
  congr
@[simp] theorem e_ort {a b : C} : ev cx (.ort a b) ρ = kor (ev cx a ρ) cx b := by
  rw [ev]
  unfold kor kor2
  congr
@[simp] theorem e_ife {t a b : C} : ev cx (.ife t a b) ρ = kIf (ev cx t ρ) cx a b := by
  rw [ev]
  unfold kIf kIf2
  congr
@[simp] theorem e_tup {es : C} : ev cx (.tup es) ρ = kTup (ev cx es ρ) := nr rfl
@[simp] theorem e_lst {es : C} : ev cx (.lst es) ρ = kLst (ev cx es ρ) := nr rfl
@[simp] theorem e_ix {a b : C} : ev cx (.ix a b) ρ = kIx (ev cx a ρ) cx b := nr rfl
@[simp] theorem e_pt {a : C} : ev cx (.pt a) ρ = kPt (ev cx a ρ) := nr rfl
@[simp] theorem e_sl {a lo hi : C} : ev cx (.sl a lo hi) ρ = kSl (ev cx a ρ) cx lo hi := nr rfl
@[simp] theorem e_rev {a : C} : ev cx (.rev a) ρ = kRev (ev cx a ρ) := nr rfl
@[simp] theorem e_call {f : Nat} {es : C} : ev cx (.call f es) ρ = kCall (ev cx es ρ) cx f := nr rfl
@[simp] theorem e_bi {b : Bi} {es : C} : ev cx (.bi b es) ρ = kBi (ev cx es ρ) b := nr rfl
end
def sNx (o : Option Env)  : F := lifo o fun ρ => .nx ρ
@[simp] theorem sNx_some {ρ : Env}  : sNx (some ρ)  = .nx ρ := nr rfl
def sAsg (r : RE) (i : Nat) : F := lift r fun x ρ1 => sNx (store i x ρ1)
@[simp] theorem sAsg_ok {x : Rv} {ρ1 : Env} {i : Nat} : sAsg (.ok (x, ρ1)) i = sNx (store i x ρ1) := nr rfl
@[simp] theorem sAsg_er {x : Str} {i : Nat} : sAsg (.er x) i = .er x := nr rfl
def sAsgT3 (o : Option (List D)) (is : List Nat) (ρ : Env) : F := lifo o fun ds => sNx (setAll ρ is ds)
@[simp] theorem sAsgT3_some {ds : List D} {is : List Nat} {ρ : Env} : sAsgT3 (some ds) is ρ = sNx (setAll ρ is ds) := nr rfl
def sAsgT2 (o : Option (D × Env)) (is : List Nat) : F := lifo o fun p => sAsgT3 (tupOf p.1) is p.2
@[simp] theorem sAsgT2_some {d : D} {ρ : Env} {is : List Nat} : sAsgT2 (some (d, ρ)) is = sAsgT3 (tupOf d) is ρ := nr rfl
def sAsgT (r : RE) (is : List Nat) : F := lift r fun x ρ1 => sAsgT2 (esc ρ1 x) is
@[simp] theorem sAsgT_ok {x : Rv} {ρ1 : Env} {is : List Nat} : sAsgT (.ok (x, ρ1)) is = sAsgT2 (esc ρ1 x) is := nr rfl
@[simp] theorem sAsgT_er {x : Str} {is : List Nat} : sAsgT (.er x) is = .er x := nr rfl
def sPar2 (o : Option (List Rv)) (is : List Nat) (ρ : Env) : F := lifo o fun rs => sNx (stores is rs ρ)
@[simp] theorem sPar2_some {rs : (List Rv)} {is : List Nat} {ρ : Env} : sPar2 (some rs) is ρ = sNx (stores is rs ρ) := nr rfl
def sPar (r : RE) (is : List Nat) : F := lift r fun x ρ1 => sPar2 (listOf x) is ρ1
@[simp] theorem sPar_ok {x : Rv} {ρ1 : Env} {is : List Nat} : sPar (.ok (x, ρ1)) is = sPar2 (listOf x) is ρ1 := nr rfl
@[simp] theorem sPar_er {x : Str} {is : List Nat} : sPar (.er x) is = .er x := nr rfl
def sAug4 (o : Option Rv) (i : Nat) (ρ : Env) : F := lifo o fun z => sNx (store1 i z ρ)
@[simp] theorem sAug4_some {z : Rv} {i : Nat} {ρ : Env} : sAug4 (some z) i ρ = sNx (store1 i z ρ) := nr rfl
def sAug3 (o : Option Int) (i : Nat) (op : Operator) (a : Int) (ρ : Env) : F := lifo o fun b => sAug4 (binop op (.int a) (.int b)) i ρ
@[simp] theorem sAug3_some {b : Int} {i : Nat} {op : Operator} {a : Int} {ρ : Env} : sAug3 (some b) i op a ρ = sAug4 (binop op (.int a) (.int b)) i ρ := nr rfl
def sAug2 (o : Option D) (i : Nat) (op : Operator) (a : Int) (ρ : Env) : F := lifo o fun y => sAug3 (intOf y) i op a ρ
@[simp] theorem sAug2_some {y : D} {i : Nat} {op : Operator} {a : Int} {ρ : Env} : sAug2 (some y) i op a ρ = sAug3 (intOf y) i op a ρ := nr rfl
def sAug1 (r : RE) (i : Nat) (op : Operator) (a : Int) : F := lift r fun x ρ1 => sAug2 (read ρ1 x) i op a ρ1
@[simp] theorem sAug1_ok {x : Rv} {ρ1 : Env} {i : Nat} {op : Operator} {a : Int} : sAug1 (.ok (x, ρ1)) i op a = sAug2 (read ρ1 x) i op a ρ1 := nr rfl
@[simp] theorem sAug1_er {x : Str} {i : Nat} {op : Operator} {a : Int} : sAug1 (.er x) i op a = .er x := nr rfl
def sAug (o : Option Int) (r : RE) (i : Nat) (op : Operator) : F := lifo o fun a => sAug1 r i op a
@[simp] theorem sAug_some {a : Int} {r : RE} {i : Nat} {op : Operator} : sAug (some a) r i op = sAug1 r i op a := nr rfl
def sApp4 (xs : List D) (d : D) (i : Nat) (ρ : Env) : F := if xs.length < big then .nx (ρ.set i (.ow (.list (xs ++ [d])))) else .no
@[simp] theorem sApp4_ok {xs : List D} {d : D} {i : Nat} {ρ : Env} (h : xs.length < big) : sApp4 xs d i ρ = .nx (ρ.set i (.ow (.list (xs ++ [d])))) := if_pos h
def sApp3 (o : Option (List D)) (d : D) (i : Nat) (ρ : Env) : F := lifo o fun xs => sApp4 xs d i ρ
@[simp] theorem sApp3_some {xs : (List D)} {d : D} {i : Nat} {ρ : Env} : sApp3 (some xs) d i ρ = sApp4 xs d i ρ := nr rfl
def sApp2 (o : Option (D × Env)) (i : Nat) : F := lifo o fun p => sApp3 (lstOf (get p.2 i)) p.1 i p.2
@[simp] theorem sApp2_some {d : D} {ρ : Env} {i : Nat} : sApp2 (some (d, ρ)) i = sApp3 (lstOf (get ρ i)) d i ρ := nr rfl
def sApp1 (r : RE) (i : Nat) : F := lift r fun x ρ1 => sApp2 (esc ρ1 x) i
@[simp] theorem sApp1_ok {x : Rv} {ρ1 : Env} {i : Nat} : sApp1 (.ok (x, ρ1)) i = sApp2 (esc ρ1 x) i := nr rfl
@[simp] theorem sApp1_er {x : Str} {i : Nat} : sApp1 (.er x) i = .er x := nr rfl
def sApp (o : Option (List D)) (r : RE) (i : Nat) : F := lifo o fun xs => sApp1 r i
@[simp] theorem sApp_some {xs : (List D)} {r : RE} {i : Nat} : sApp (some xs) r i = sApp1 r i := nr rfl
def sExp (r : RE)  : F := lift r fun x ρ1 => .nx ρ1
@[simp] theorem sExp_ok {x : Rv} {ρ1 : Env}  : sExp (.ok (x, ρ1))  = .nx ρ1 := nr rfl
@[simp] theorem sExp_er {x : Str}  : sExp (.er x)  = .er x := nr rfl
def sRet (r : RE)  : F := lift r fun x ρ1 => retF x ρ1
@[simp] theorem sRet_ok {x : Rv} {ρ1 : Env}  : sRet (.ok (x, ρ1))  = retF x ρ1 := nr rfl
@[simp] theorem sRet_er {x : Str}  : sRet (.er x)  = .er x := nr rfl
def ifX (z : Bool) (cx : Ctx) (a b : S) (ρ : Env) : F := match z with | true => xec cx a ρ | false => xec cx b ρ
@[simp] theorem ifX_t {cx : Ctx} {a b : S} {ρ : Env} : ifX true cx a b ρ = xec cx a ρ := nr rfl
@[simp] theorem ifX_f {cx : Ctx} {a b : S} {ρ : Env} : ifX false cx a b ρ = xec cx b ρ := nr rfl
def sIf2 (o : Option Bool) (cx : Ctx) (a : S) (b : S) (ρ : Env) : F := lifo o fun z => ifX z cx a b ρ
@[simp] theorem sIf2_some {z : Bool} {cx : Ctx} {a : S} {b : S} {ρ : Env} : sIf2 (some z) cx a b ρ = ifX z cx a b ρ := nr rfl
def sIf (r : RE) (cx : Ctx) (a : S) (b : S) : F := lift r fun x ρ1 => sIf2 (boolOf ρ1 x) cx a b ρ1
@[simp] theorem sIf_ok {x : Rv} {ρ1 : Env} {cx : Ctx} {a : S} {b : S} : sIf (.ok (x, ρ1)) cx a b = sIf2 (boolOf ρ1 x) cx a b ρ1 := nr rfl
@[simp] theorem sIf_er {x : Str} {cx : Ctx} {a : S} {b : S} : sIf (.er x) cx a b = .er x := nr rfl
def sFor4 (o : Option (List D)) (cx : Ctx) (tg : Tg) (body : S) (ρ : Env) : F := lifo o fun items => forGo (xec cx body) tg items ρ
@[simp] theorem sFor4_some {items : (List D)} {cx : Ctx} {tg : Tg} {body : S} {ρ : Env} : sFor4 (some items) cx tg body ρ = forGo (xec cx body) tg items ρ := nr rfl
def sFor3 (o : Option (List D × Env)) (ds : List D) (cx : Ctx) (tg : Tg) (w : Wk) (body : S) : F := lifo o fun p => sFor4 (walked w ds) cx tg body p.2
@[simp] theorem sFor3_some {ds ds2 : List D} {ρ : Env} {cx : Ctx} {tg : Tg} {w : Wk} {body : S} : sFor3 (some (ds2, ρ)) ds cx tg w body = sFor4 (walked w ds) cx tg body ρ := nr rfl
def sFor2 (o : Option (List D)) (o2 : Option (List D × Env)) (cx : Ctx) (tg : Tg) (w : Wk) (body : S) : F := lifo o fun ds => sFor3 o2 ds cx tg w body
@[simp] theorem sFor2_some {ds : (List D)} {o2 : Option (List D × Env)} {cx : Ctx} {tg : Tg} {w : Wk} {body : S} : sFor2 (some ds) o2 cx tg w body = sFor3 o2 ds cx tg w body := nr rfl
def sFor1 (o : Option (List Rv)) (cx : Ctx) (tg : Tg) (w : Wk) (body : S) (ρ : Env) : F := lifo o fun rs => sFor2 (reads ρ rs) (escs ρ rs) cx tg w body
@[simp] theorem sFor1_some {rs : (List Rv)} {cx : Ctx} {tg : Tg} {w : Wk} {body : S} {ρ : Env} : sFor1 (some rs) cx tg w body ρ = sFor2 (reads ρ rs) (escs ρ rs) cx tg w body := nr rfl
def sFor (r : RE) (cx : Ctx) (tg : Tg) (w : Wk) (body : S) : F := lift r fun x ρ1 => sFor1 (listOf x) cx tg w body ρ1
@[simp] theorem sFor_ok {x : Rv} {ρ1 : Env} {cx : Ctx} {tg : Tg} {w : Wk} {body : S} : sFor (.ok (x, ρ1)) cx tg w body = sFor1 (listOf x) cx tg w body ρ1 := nr rfl
@[simp] theorem sFor_er {x : Str} {cx : Ctx} {tg : Tg} {w : Wk} {body : S} : sFor (.er x) cx tg w body = .er x := nr rfl
def seqX (f : F) (cx : Ctx) (r : S) : F := f.seq (xec cx r)
@[simp] theorem seqX_nx {ρ : Env} {cx : Ctx} {r : S} : seqX (.nx ρ) cx r = xec cx r ρ := nr rfl
@[simp] theorem seqX_rt {d : D} {b : Bool} {ρ : Env} {cx : Ctx} {r : S} : seqX (.rt d b ρ) cx r = .rt d b ρ := nr rfl
@[simp] theorem seqX_bk {ρ : Env} {cx : Ctx} {r : S} : seqX (.bk ρ) cx r = .bk ρ := nr rfl
@[simp] theorem seqX_ct {ρ : Env} {cx : Ctx} {r : S} : seqX (.ct ρ) cx r = .ct ρ := nr rfl
@[simp] theorem seqX_er {x : Str} {cx : Ctx} {r : S} : seqX (.er x) cx r = .er x := nr rfl
section
variable {cx : Ctx} {ρ : Env}
@[simp] theorem x_nil : xec cx .nil ρ = .nx ρ := nr rfl
@[simp] theorem x_seq {s r : S} : xec cx (.seq s r) ρ = seqX (xec cx s ρ) cx r := nr rfl
@[simp] theorem x_asg {i : Nat} {e : C} : xec cx (.asg i e) ρ = sAsg (ev cx e ρ) i := nr rfl
@[simp] theorem x_asgT {is : List Nat} {e : C} : xec cx (.asgT is e) ρ = sAsgT (ev cx e ρ) is := nr rfl
@[simp] theorem x_par {is : List Nat} {es : C} : xec cx (.par is es) ρ = sPar (ev cx es ρ) is := nr rfl
@[simp] theorem x_aug {i : Nat} {o : Operator} {e : C} : xec cx (.aug i o e) ρ = sAug (fzI (get ρ i)) (ev cx e ρ) i o := nr rfl
@[simp] theorem x_app {i : Nat} {e : C} : xec cx (.app i e) ρ = sApp (lstOf (get ρ i)) (ev cx e ρ) i := nr rfl
@[simp] theorem x_exp {e : C} : xec cx (.exp e) ρ = sExp (ev cx e ρ) := nr rfl
@[simp] theorem x_ret {e : C} : xec cx (.ret e) ρ = sRet (ev cx e ρ) := nr rfl
@[simp] theorem x_retN : xec cx .retN ρ = .rt .none false ρ := nr rfl
@[simp] theorem x_ife {t : C} {a b : S} : xec cx (.ife t a b) ρ = sIf (ev cx t ρ) cx a b := by
  rw [xec]
  unfold sIf sIf2
  congr
@[simp] theorem x_for {tg : Tg} {w : Wk} {it : C} {body : S} : xec cx (.for tg w it body) ρ = sFor (ev cx it ρ) cx tg w body := nr rfl
end
section
variable {cx : Ctx} {ρ : Env}
@[simp] theorem x_rse {x : Str} : xec cx (.rse x) ρ = .er x := nr rfl
@[simp] theorem x_pass : xec cx .pass ρ = .nx ρ := nr rfl
def retS (s : Slot) (i : Nat) (ρ : Env) : F := match s with
    | .ow d => .rt d true (ρ.set i .no)
    | .fz d => .rt d false ρ
    | .no => .no
@[simp] theorem retS_ow {d : D} {i : Nat} : retS (.ow d) i ρ = .rt d true (ρ.set i .no) := nr rfl
@[simp] theorem retS_fz {d : D} {i : Nat} : retS (.fz d) i ρ = .rt d false ρ := nr rfl
@[simp] theorem retF_d {d : D} : retF (.d d) ρ = .rt d false ρ := nr rfl
@[simp] theorem retF_f {d : D} : retF (.f d) ρ = .rt d true ρ := nr rfl
@[simp] theorem retF_o {i : Nat} : retF (.o i) ρ = retS (get ρ i) i ρ := nr rfl
@[simp] theorem bi_len {d : D} : builtin .len [d] = fLen d := nr rfl
@[simp] theorem bi_tuple {d : D} : builtin .tuple [d] = fTuple d := nr rfl
@[simp] theorem bi_list {d : D} : builtin .list [d] = fList d := nr rfl
@[simp] theorem bi_sorted {d : D} : builtin .sorted [d] = fSorted d := nr rfl
@[simp] theorem bi_all {d : D} : builtin .all [d] = fAll d := nr rfl
@[simp] theorem bi_sum {d : D} : builtin .sum [d] = fSum d := nr rfl
@[simp] theorem bi_int {d : D} : builtin .int [d] = fInt d := nr rfl
@[simp] theorem bi_min2 {d e : D} : builtin .min2 [d, e] = fMin2 d e := nr rfl
@[simp] theorem bi_max2 {d e : D} : builtin .max2 [d, e] = fMax2 d e := nr rfl
@[simp] theorem bi_isint {d : D} : builtin .isint [d] = fIs "int" d := nr rfl
@[simp] theorem bi_isbool {d : D} : builtin .isbool [d] = fIs "bool" d := nr rfl
@[simp] theorem bi_istup {d : D} : builtin .istup [d] = fIs "tuple" d := nr rfl
@[simp] theorem bi_isstr {d : D} : builtin .isstr [d] = fIs "str" d := nr rfl
@[simp] theorem bi_islist {d : D} : builtin .islist [d] = fIs "list" d := nr rfl
@[simp] theorem min2I {a b : Int} : fMin2 (.int a) (.int b) = some (.d (.int (if b < a then b else a))) := nr rfl
@[simp] theorem max2I {a b : Int} : fMax2 (.int a) (.int b) = some (.d (.int (if b > a then b else a))) := nr rfl
@[simp] theorem isTupI {L : List Int} : fIs "tuple" (intsT L) = some (.d (.bool true)) := nr rfl
@[simp] theorem isTupT {L : List D} : fIs "tuple" (.tuple L) = some (.d (.bool true)) := nr rfl
@[simp] theorem isTupL {L : List D} : fIs "tuple" (.list L) = some (.d (.bool false)) := nr rfl
@[simp] theorem isTupN : fIs "tuple" .none = some (.d (.bool false)) := nr rfl
@[simp] theorem isTupInt {i : Int} : fIs "tuple" (.int i) = some (.d (.bool false)) := nr rfl
@[simp] theorem isIntI {i : Int} : fIs "int" (.int i) = some (.d (.bool true)) := nr rfl
@[simp] theorem isBoolI {i : Int} : fIs "bool" (.int i) = some (.d (.bool false)) := nr rfl
@[simp] theorem isStrS {i : Str} : fIs "str" (.str i) = some (.d (.bool true)) := nr rfl
@[simp] theorem part_n : part .none = some none := nr rfl
@[simp] theorem part_i {i : Int} : part (.int i) = some (some i) := nr rfl
@[simp] theorem lent_nil : lent [] = [] := nr rfl
@[simp] theorem lent_d {d : D} {rs : List Rv} : lent (.d d :: rs) = lent rs := nr rfl
@[simp] theorem lent_f {d : D} {rs : List Rv} : lent (.f d :: rs) = lent rs := nr rfl
@[simp] theorem lent_o {i : Nat} {rs : List Rv} : lent (.o i :: rs) = i :: lent rs := nr rfl
@[simp] theorem rvOf_t {d : D} : rvOf d true = .f d := nr rfl
@[simp] theorem rvOf_f {d : D} : rvOf d false = .d d := nr rfl
end
@[simp] theorem g0 {x0 : Slot} {ρ : Env} : get (x0 :: ρ) 0 = x0 := nr rfl
@[simp] theorem g1 {x0 x1 : Slot} {ρ : Env} : get (x0 :: x1 :: ρ) 1 = x1 := nr rfl
@[simp] theorem g2 {x0 x1 x2 : Slot} {ρ : Env} : get (x0 :: x1 :: x2 :: ρ) 2 = x2 := nr rfl
@[simp] theorem g3 {x0 x1 x2 x3 : Slot} {ρ : Env} : get (x0 :: x1 :: x2 :: x3 :: ρ) 3 = x3 := nr rfl
@[simp] theorem g4 {x0 x1 x2 x3 x4 : Slot} {ρ : Env} : get (x0 :: x1 :: x2 :: x3 :: x4 :: ρ) 4 = x4 := nr rfl
@[simp] theorem g5 {x0 x1 x2 x3 x4 x5 : Slot} {ρ : Env} : get (x0 :: x1 :: x2 :: x3 :: x4 :: x5 :: ρ) 5 = x5 := nr rfl
@[simp] theorem g6 {x0 x1 x2 x3 x4 x5 x6 : Slot} {ρ : Env} : get (x0 :: x1 :: x2 :: x3 :: x4 :: x5 :: x6 :: ρ) 6 = x6 := nr rfl
@[simp] theorem g7 {x0 x1 x2 x3 x4 x5 x6 x7 : Slot} {ρ : Env} : get (x0 :: x1 :: x2 :: x3 :: x4 :: x5 :: x6 :: x7 :: ρ) 7 = x7 := nr rfl
@[simp] theorem g8 {x0 x1 x2 x3 x4 x5 x6 x7 x8 : Slot} {ρ : Env} : get (x0 :: x1 :: x2 :: x3 :: x4 :: x5 :: x6 :: x7 :: x8 :: ρ) 8 = x8 := nr rfl
@[simp] theorem g9 {x0 x1 x2 x3 x4 x5 x6 x7 x8 x9 : Slot} {ρ : Env} : get (x0 :: x1 :: x2 :: x3 :: x4 :: x5 :: x6 :: x7 :: x8 :: x9 :: ρ) 9 = x9 := nr rfl
@[simp] theorem g10 {x0 x1 x2 x3 x4 x5 x6 x7 x8 x9 x10 : Slot} {ρ : Env} : get (x0 :: x1 :: x2 :: x3 :: x4 :: x5 :: x6 :: x7 :: x8 :: x9 :: x10 :: ρ) 10 = x10 := nr rfl
@[simp] theorem g11 {x0 x1 x2 x3 x4 x5 x6 x7 x8 x9 x10 x11 : Slot} {ρ : Env} : get (x0 :: x1 :: x2 :: x3 :: x4 :: x5 :: x6 :: x7 :: x8 :: x9 :: x10 :: x11 :: ρ) 11 = x11 := nr rfl
@[simp] theorem g12 {x0 x1 x2 x3 x4 x5 x6 x7 x8 x9 x10 x11 x12 : Slot} {ρ : Env} : get (x0 :: x1 :: x2 :: x3 :: x4 :: x5 :: x6 :: x7 :: x8 :: x9 :: x10 :: x11 :: x12 :: ρ) 12 = x12 := nr rfl
@[simp] theorem g13 {x0 x1 x2 x3 x4 x5 x6 x7 x8 x9 x10 x11 x12 x13 : Slot} {ρ : Env} : get (x0 :: x1 :: x2 :: x3 :: x4 :: x5 :: x6 :: x7 :: x8 :: x9 :: x10 :: x11 :: x12 :: x13 :: ρ) 13 = x13 := nr rfl
@[simp] theorem g14 {x0 x1 x2 x3 x4 x5 x6 x7 x8 x9 x10 x11 x12 x13 x14 : Slot} {ρ : Env} : get (x0 :: x1 :: x2 :: x3 :: x4 :: x5 :: x6 :: x7 :: x8 :: x9 :: x10 :: x11 :: x12 :: x13 :: x14 :: ρ) 14 = x14 := nr rfl
@[simp] theorem g15 {x0 x1 x2 x3 x4 x5 x6 x7 x8 x9 x10 x11 x12 x13 x14 x15 : Slot} {ρ : Env} : get (x0 :: x1 :: x2 :: x3 :: x4 :: x5 :: x6 :: x7 :: x8 :: x9 :: x10 :: x11 :: x12 :: x13 :: x14 :: x15 :: ρ) 15 = x15 := nr rfl
@[simp] theorem g16 {x0 x1 x2 x3 x4 x5 x6 x7 x8 x9 x10 x11 x12 x13 x14 x15 x16 : Slot} {ρ : Env} : get (x0 :: x1 :: x2 :: x3 :: x4 :: x5 :: x6 :: x7 :: x8 :: x9 :: x10 :: x11 :: x12 :: x13 :: x14 :: x15 :: x16 :: ρ) 16 = x16 := nr rfl
@[simp] theorem g17 {x0 x1 x2 x3 x4 x5 x6 x7 x8 x9 x10 x11 x12 x13 x14 x15 x16 x17 : Slot} {ρ : Env} : get (x0 :: x1 :: x2 :: x3 :: x4 :: x5 :: x6 :: x7 :: x8 :: x9 :: x10 :: x11 :: x12 :: x13 :: x14 :: x15 :: x16 :: x17 :: ρ) 17 = x17 := nr rfl
@[simp] theorem g18 {x0 x1 x2 x3 x4 x5 x6 x7 x8 x9 x10 x11 x12 x13 x14 x15 x16 x17 x18 : Slot} {ρ : Env} : get (x0 :: x1 :: x2 :: x3 :: x4 :: x5 :: x6 :: x7 :: x8 :: x9 :: x10 :: x11 :: x12 :: x13 :: x14 :: x15 :: x16 :: x17 :: x18 :: ρ) 18 = x18 := nr rfl
@[simp] theorem g19 {x0 x1 x2 x3 x4 x5 x6 x7 x8 x9 x10 x11 x12 x13 x14 x15 x16 x17 x18 x19 : Slot} {ρ : Env} : get (x0 :: x1 :: x2 :: x3 :: x4 :: x5 :: x6 :: x7 :: x8 :: x9 :: x10 :: x11 :: x12 :: x13 :: x14 :: x15 :: x16 :: x17 :: x18 :: x19 :: ρ) 19 = x19 := nr rfl
@[simp] theorem len_wE {is : List Nat} {ρ : Env} : (wipeE ρ is).length = ρ.length := len_wipeE
@[simp] theorem wE_nil {ρ : Env} : wipeE ρ [] = ρ := nr rfl
@[simp] theorem get_wE {ρ : Env} {is : List Nat} {j : Nat} : get (wipeE ρ is) j = if j ∈ is then .no else get ρ j := get_wipeE
end Iv
set_option maxRecDepth 100000
set_option maxHeartbeats 4000000
/-! E1: code run by simp: slots read and set, statements by what follows. -/
namespace Iv
open PySem PySem.Spec PyProof.Rows L2
@[simp] theorem get_set_self {ρ : Env} {i : Nat} {x : Slot} (h : i < ρ.length) : get (ρ.set i x) i = x := by
  rw [get_set, if_pos ⟨rfl, h⟩]
@[simp] theorem get_set_ne {ρ : Env} {i j : Nat} {x : Slot} (h : i ≠ j) : get (ρ.set i x) j = get ρ j := by
  rw [get_set, if_neg (fun z => h z.1)]
/-- what follows: N where the block goes on, T where it returns -/
def Fx (f : F) (N : Env → Prop) (T : D → Bool → Env → Prop) : Prop := match f with
  | .nx ρ => N ρ
  | .rt d b ρ => T d b ρ
  | _ => False
section
variable {N : Env → Prop} {T : D → Bool → Env → Prop}
@[simp] theorem Fx_nx {ρ : Env} : Fx (.nx ρ) N T = N ρ := nr rfl
@[simp] theorem Fx_rt {d : D} {b : Bool} {ρ : Env} : Fx (.rt d b ρ) N T = T d b ρ := nr rfl
theorem Fx_seq {f : F} {k : Env → F} : Fx (f.seq k) N T = Fx f (fun ρ => Fx (k ρ) N T) T := by cases f <;> rfl
theorem Fx_seqX {f : F} {cx : Ctx} {r : S} : Fx (seqX f cx r) N T = Fx f (fun ρ => Fx (xec cx r ρ) N T) T := by cases f <;> rfl
theorem Fx.mono {f : F} {N' : Env → Prop} {T' : D → Bool → Env → Prop} (h : Fx f N T) (hN : ∀ ρ, N ρ → N' ρ) (hT : ∀ d b ρ, T d b ρ → T' d b ρ) : Fx f N' T' := by
  cases f <;> first | exact hN _ h | exact hT _ _ _ h | exact h.elim
theorem Fx_for {body : Env → F} {tg : Tg} {items : List D} {ρ : Env} (I : Nat → Env → Prop) (h0 : I 0 ρ) (hs : ∀ i x ρ, items[i]? = some x → I i ρ → ∃ ρ1, bindT ρ tg x = some ρ1 ∧ Fx (body ρ1) (I (i + 1)) T) (he : ∀ ρ, I items.length ρ → N ρ) : Fx (forGo body tg items ρ) N T := by
  induction items generalizing ρ I with
  | nil => exact he ρ h0
  | cons x xs ih =>
    obtain ⟨ρ1, h1, h2⟩ := hs 0 x ρ rfl h0
    rw [forGo, h1, lifo_some]
    cases g : body ρ1 with
    | nx ρ2 =>
      rw [g] at h2
      exact ih (fun i => I (i + 1)) h2 (fun i y ρ hy h => hs (i + 1) y ρ hy h) he
    | rt d b ρ2 => rw [g] at h2; exact h2
    | bk ρ2 => rw [g] at h2; exact h2.elim
    | ct ρ2 => rw [g] at h2; exact h2.elim
    | er x => rw [g] at h2; exact h2.elim
    | no => rw [g] at h2; exact h2.elim
theorem rangeD_at {lo : Int} {n i : Nat} {x : D} (h : (rangeD lo n)[i]? = some x) : x = .int (lo + i) ∧ i < n := by
  refine ⟨rangeD_get h, ?_⟩
  have := (List.getElem?_eq_some_iff.mp h).1
  rwa [rangeD_length] at this
theorem run_Fx {cx : Ctx} {n : Nat} {body : S} {ds : List D} {d : D} {fr : Bool} (h : Fx (xec cx body (entry n false ds)) (fun _ => d = .none ∧ fr = false) (fun d' b _ => d' = d ∧ b = fr)) : run cx n false body ds = .ok d fr := by
  unfold run
  cases g : xec cx body (entry n false ds) with
  | nx ρ2 => rw [g] at h; obtain ⟨rfl, rfl⟩ := h; rfl
  | rt d b ρ2 => rw [g] at h; obtain ⟨rfl, rfl⟩ := h; rfl
  | bk ρ2 => rw [g] at h; exact h.elim
  | ct ρ2 => rw [g] at h; exact h.elim
  | er x => rw [g] at h; exact h.elim
  | no => rw [g] at h; exact h.elim
/-- the same with what is wanted of the result -/
theorem run_ex {cx : Ctx} {n : Nat} {body : S} {ds : List D} {P : D → Bool → Prop} (h : Fx (xec cx body (entry n false ds)) (fun _ => P .none false) (fun d b _ => P d b)) : ∃ d fr, run cx n false body ds = .ok d fr ∧ P d fr := by
  unfold run
  cases g : xec cx body (entry n false ds) with
  | nx ρ2 => rw [g] at h; exact ⟨_, _, rfl, h⟩
  | rt d b ρ2 => rw [g] at h; exact ⟨_, _, rfl, h⟩
  | bk ρ2 => rw [g] at h; exact h.elim
  | ct ρ2 => rw [g] at h; exact h.elim
  | er x => rw [g] at h; exact h.elim
  | no => rw [g] at h; exact h.elim
theorem runIo_ex {cx : Ctx} {n : Nat} {body : S} {ds : List D} {P : D → Bool → D → Prop} (h : Fx (xec cx body (entry n true ds)) (fun _ => False) (fun d b ρ => ∃ c, get ρ 0 = .ow c ∧ P d b c)) : ∃ d fr c, run cx n true body ds = .io d fr c ∧ P d fr c := by
  unfold run
  cases g : xec cx body (entry n true ds) with
  | nx ρ2 => rw [g] at h; exact h.elim
  | rt d b ρ2 =>
    rw [g] at h
    obtain ⟨c, h1, h2⟩ := h
    exact ⟨d, b, c, by simp only [h1], h2⟩
  | bk ρ2 => rw [g] at h; exact h.elim
  | ct ρ2 => rw [g] at h; exact h.elim
  | er x => rw [g] at h; exact h.elim
  | no => rw [g] at h; exact h.elim
end
/-! ### comprehensions that leave the slots as they are -/
theorem env_ext {ρ ρ' : Env} (hl : ρ.length = ρ'.length) (h : ∀ i, get ρ i = get ρ' i) : ρ = ρ' := by
  apply List.ext_getElem hl
  intro i h1 h2
  have := h i
  unfold get at this
  rw [List.getD_eq_getElem?_getD, List.getD_eq_getElem?_getD, List.getElem?_eq_getElem h1, List.getElem?_eq_getElem h2] at this
  exact this
theorem setAll_eq : ∀ {is : List Nat} {ds : List D} {ρ ρ1 : Env}, setAll ρ is ds = some ρ1 → ρ1.length = ρ.length ∧ ∀ j, j ∉ is → get ρ1 j = get ρ j
  | [], [], _, _, h => by cases h; exact ⟨rfl, fun _ _ => rfl⟩
  | i :: is, d :: ds, ρ, ρ1, h => by
    obtain ⟨h1, h2⟩ := setAll_eq (ρ := ρ.set i (.fz d)) h
    refine ⟨by rw [h1, List.length_set], fun j hj => ?_⟩
    rw [List.mem_cons, not_or] at hj
    rw [h2 j hj.2, get_set_ne (fun e => hj.1 e.symm)]
  | [], _ :: _, _, _, h => by cases h
  | _ :: _, [], _, _, h => by cases h
theorem bindT_eq {tg : Tg} {x : D} {ρ ρ1 : Env} (h : bindT ρ tg x = some ρ1) : ρ1.length = ρ.length ∧ ∀ j, j ∉ tgs tg → get ρ1 j = get ρ j := by
  cases tg with
  | n i =>
    cases h
    refine ⟨List.length_set .., fun j hj => get_set_ne fun e => hj (by rw [e]; exact List.mem_singleton.mpr rfl)⟩
  | t is =>
    cases x with
    | tuple ds => exact setAll_eq h
    | none => cases h
    | bool _ => cases h
    | int _ => cases h
    | str _ => cases h
    | list _ => cases h
    | dict _ => cases h
theorem wipe_back {ρ ρw ρ1 : Env} {own : List Nat} {tg : Tg} {x : D} (hw : wipeE ρw own = ρw) (ht : ∀ i ∈ tgs tg, i ∈ own) (h : bindT ρw tg x = some ρ1) : wipeE ρ1 own = ρw := by
  obtain ⟨h1, h2⟩ := bindT_eq h
  refine env_ext (by rw [len_wipeE, h1]) fun j => ?_
  rw [get_wipeE]
  by_cases hj : j ∈ own
  · rw [if_pos hj, ← hw, get_wipeE, if_pos hj]
  · rw [if_neg hj, h2 j fun z => hj (ht j z)]
theorem wipeE_idem {ρ : Env} {own : List Nat} : wipeE (wipeE ρ own) own = wipeE ρ own := by
  refine env_ext (by rw [len_wipeE]) fun j => ?_
  rw [get_wipeE, get_wipeE]
  split <;> rfl
theorem back_back {ρ : Env} {a b : List Nat} : backE (backE (wipeE (wipeE ρ b) a) ρ a) ρ b = ρ := by
  have l1 : (wipeE (wipeE ρ b) a).length = ρ.length := by rw [len_wipeE, len_wipeE]
  refine env_ext (by rw [len_backE, len_backE, l1]) fun j => ?_
  rw [get_backE (by rw [len_backE, l1]), get_backE l1, get_wipeE, get_wipeE]
  by_cases h1 : j ∈ b
  · rw [if_pos h1]
  · rw [if_neg h1]
    by_cases h2 : j ∈ a
    · rw [if_pos h2]
    · rw [if_neg h2, if_neg h2, if_neg h1]
theorem lcGo_pure {test elt : Env → R (Rv × Env)} {tg : Tg} {own : List Nat} {ρw : Env} (f : D → Option D) (ht : ∀ i ∈ tgs tg, i ∈ own) (hw : wipeE ρw own = ρw) : ∀ {items acc : List D},
    (∀ x ∈ items, ∃ ρ1, bindT ρw tg x = some ρ1 ∧ match f x with
      | none => test ρ1 = .ok (.d (.bool false), ρ1)
      | some y => test ρ1 = .ok (.d (.bool true), ρ1) ∧ ∃ r, elt ρ1 = .ok (r, ρ1) ∧ esc ρ1 r = some (y, ρ1)) →
    lcGo test elt tg own items ρw acc = .ok (acc.reverse ++ items.filterMap f, ρw)
  | [], acc, _ => by
    show R.ok (acc.reverse, ρw) = _
    rw [List.filterMap_nil, List.append_nil]
  | x :: xs, acc, h => by
    obtain ⟨ρ1, h1, h2⟩ := h x List.mem_cons_self
    have hr := fun y hy => h y (List.mem_cons_of_mem _ hy)
    have e := wipe_back (ρ := ρw) hw ht h1
    cases g : f x with
    | none =>
      rw [g] at h2
      rw [lcGo_not h1 h2 rfl, e, lcGo_pure f ht hw hr, List.filterMap_cons_none g]
    | some y =>
      rw [g] at h2
      obtain ⟨h3, r, h4, h5⟩ := h2
      rw [lcGo_yes h1 h3 rfl h4 h5, e, lcGo_pure f ht hw hr, List.filterMap_cons_some g, List.reverse_cons, List.append_assoc]
      rfl
theorem ev_lcP {cx : Ctx} {own : List Nat} {elt : C} {tg : Tg} {w : Wk} {it ifs : C} {ρ : Env} {rs : List Rv} {ds items : List D} (f : D → Option D) (h1 : ev cx it ρ = .ok (.l rs, ρ)) (h2 : reads ρ rs = some ds) (h3 : walked w ds = some items) (h4 : items.length ≤ big) (ht : ∀ i ∈ tgs tg, i ∈ own)
    (h5 : ∀ x ∈ items, ∃ ρ1, bindT (wipeE (wipeE ρ (lent rs)) own) tg x = some ρ1 ∧ match f x with
      | none => ev cx ifs ρ1 = .ok (.d (.bool false), ρ1)
      | some y => ev cx ifs ρ1 = .ok (.d (.bool true), ρ1) ∧ ∃ r, ev cx elt ρ1 = .ok (r, ρ1) ∧ esc ρ1 r = some (y, ρ1)) :
    ev cx (.lc own elt tg w it ifs) ρ = .ok (.f (.list (items.filterMap f)), ρ) := by
  rw [ev_lc h1 h2 h3 h4 (lcGo_pure f ht wipeE_idem h5), back_back]
  rfl
end Iv
set_option maxRecDepth 100000
set_option maxHeartbeats 4000000
/-! E2: what is drawn. -/
namespace Iv
open PySem PySem.Spec PyProof.Rows L2
theorem callF_io {cx : Ctx} {f i : Nat} {fi : FI} {ρ ρ2 : Env} {rs : List Rv} {ds : List D} {b d b' : D} {fr : Bool} (hf : cx.fs[f]? = some fi) (hio : fi.io = true) (h2 : escs ρ rs = some (ds, ρ2)) (h3 : get ρ2 i = .ow b) (h4 : fi.sem (b :: ds) = .io d fr b') :
    callF cx f (.o i :: rs) ρ = .ok (rvOf d fr, ρ2.set i (.ow b')) := by
  unfold callF
  rw [hf, got_some]
  simp only [hio]
  show (got (escs ρ rs) fun p => got (owOf (get p.2 i)) fun b => gaveIo (fi.sem (b :: p.1)) i p.2) = _
  rw [h2, got_some, h3]
  show gaveIo (fi.sem (b :: ds)) i ρ2 = _
  rw [h4]
  cases fr <;> rfl
theorem callF_ok {cx : Ctx} {f : Nat} {fi : FI} {ρ ρ2 : Env} {rs : List Rv} {ds : List D} {d : D} {fr : Bool} (hf : cx.fs[f]? = some fi) (hio : fi.io = false) (h2 : escs ρ rs = some (ds, ρ2)) (h4 : fi.sem ds = .ok d fr) :
    callF cx f rs ρ = .ok (rvOf d fr, ρ2) := by
  unfold callF
  rw [hf, got_some]
  simp only [hio]
  show (got (escs ρ rs) fun p => gave (fi.sem p.1) p.2) = _
  rw [h2, got_some, h4]
  cases fr <;> rfl
theorem callF_take {cx : Ctx} {t : Nat} {ft : FI} (hf : cx.fs[t]? = some ft) (T : TakeOk ft) {ρ : Env} {i : Nat} {a s : Int} (c : Int) (g : get ρ i = .ow (bagD a s)) (ok : BagOk a s) (h0 : 0 < c) (h1 : c < 2 ^ 40) :
    ∃ r a' s', callF cx t [.o i, .d (.int c)] ρ = .ok (.d (.int r), ρ.set i (.ow (bagD a' s'))) ∧ 0 ≤ r ∧ r < c ∧ BagOk a' s' := by
  obtain ⟨r, a', s', h, q⟩ := T.2 a s c ok h0 h1
  exact ⟨r, a', s', callF_io (fr := false) hf T.1 rfl g h, q⟩
theorem callF_takeN {cx : Ctx} {t : Nat} {ft : FI} (hf : cx.fs[t]? = some ft) (T : TakeOk ft) {ρ : Env} {i : Nat} {a s : Int} (c : Nat) (g : get ρ i = .ow (bagD a s)) (ok : BagOk a s) (h0 : 0 < c) (h1 : c < 2 ^ 40) :
    ∃ (r : Nat) (a' s' : Int), callF cx t [.o i, .d (.int c)] ρ = .ok (.d (.int r), ρ.set i (.ow (bagD a' s'))) ∧ r < c ∧ BagOk a' s' := by
  obtain ⟨r, a', s', h, q0, q1, q2⟩ := callF_take hf T (ρ := ρ) (i := i) (c : Int) g ok (by omega) (by omega)
  obtain ⟨k, rfl⟩ : ∃ k : Nat, r = k := ⟨r.toNat, by omega⟩
  exact ⟨k, a', s', h, by omega, q2⟩
/-- one of some -/
def OfG (f : FI) : Prop := f.io = true ∧ ∀ (a s : Int) (d : D) (xs : List D), seqOf d = some xs → BagOk a s → 0 < xs.length → xs.length ≤ 1000 → ∃ x a' s', f.sem [bagD a s, d] = .io x false (bagD a' s') ∧ x ∈ xs ∧ BagOk a' s'
theorem index_nat {d : D} {xs : List D} {k : Nat} {x : D} (h : seqOf d = some xs) (hx : xs[k]? = some x) : index d (.int (k : Int)) = some (.d x) := by
  have hk := (List.getElem?_eq_some_iff.mp hx).1
  have e : L2.atI xs (k : Int) = some x := by
    unfold L2.atI
    rw [ixN_nat (by omega) (by omega)]
    exact hx
  unfold seqOf at h
  split at h <;> cases h <;> (show (L2.atI xs (k : Int)).map Rv.d = _; rw [e]; rfl)
theorem fLen_seq {d : D} {xs : List D} (h : seqOf d = some xs) : fLen d = some (.d (.int xs.length)) := by
  unfold seqOf at h
  split at h <;> cases h <;> rfl
theorem sem_ofG {cx : Ctx} {ft : FI} {t : Nat} (hf : cx.fs[t]? = some ft) (T : TakeOk ft) {f : FI} (hio : f.io = true) (hs : ∀ ds, f.sem ds = run cx 2 true (ofC t) ds) : OfG f := by
  refine ⟨hio, fun a s d xs hd ok h0 h1 => ?_⟩
  rw [hs]
  obtain ⟨r, a', s', hr, r1, ok'⟩ := callF_takeN hf T (ρ := [.ow (bagD a s), .fz d]) (i := 0) xs.length rfl ok h0 (by omega)
  have hx : xs[r]? = some xs[r] := by simp [r1]
  obtain ⟨x, fr, c, e, rfl, rfl, rfl⟩ := runIo_ex (cx := cx) (n := 2) (body := ofC t) (ds := [bagD a s, d]) (P := fun x fr c => x = xs[r] ∧ fr = false ∧ c = bagD a' s') (by
    show Fx (xec cx (ofC t) [.ow (bagD a s), .fz d]) _ _
    simp [ofC, xec, ev, get0, get1, listOf, reads, read, builtin, un1, fLen_seq hd, hr, index_nat hd hx, retF, boolOf])
  exact ⟨_, _, _, e, List.getElem_mem .., ok'⟩
end Iv
set_option maxRecDepth 100000
set_option maxHeartbeats 4000000
/-! P1: rounds from any number on; steps. -/
namespace Iv
open PySem PySem.Spec PyProof.Rows L2
/-! ### places from round t on -/
def posF (n t p : Nat) : Nat → Nat
  | 0 => p
  | r + 1 => sg n (t + r) (posF n t p r)
theorem posF_lt {n t p : Nat} (h : p < n) : ∀ r, posF n t p r < n
  | 0 => h
  | r + 1 => sg_lt (posF_lt h r)
theorem posF_perm (n t : Nat) : ∀ r, List.Perm ((List.range n).map fun p => posF n t p r) (List.range n)
  | 0 => by
    show List.Perm ((List.range n).map fun p => p) _
    rw [List.map_id']
  | r + 1 => by
    have : ((List.range n).map fun p => posF n t p (r + 1)) = ((List.range n).map fun p => posF n t p r).map (sg n (t + r)) := by
      rw [List.map_map]
      rfl
    rw [this]
    exact ((posF_perm n t r).map _).trans (sg_perm n (t + r))
theorem dest_posF {n t p : Nat} (hp : p < n) : ∀ r : Nat, dest n p t r = posF n t p r ∧ (spotOf n p t + r) % (2 * n : Int) % 2 = ((t + r : Nat) : Int) % 2
  | 0 => by
    have e0 : (spotOf n p t + ((0 : Nat) : Int)) % (2 * n : Int) = spotOf n p t := by
      unfold spotOf
      rw [Int.emod_eq_of_lt] <;> split <;> omega
    constructor
    · show placeOf n _ = _
      rw [e0]
      unfold placeOf spotOf
      show _ = ((p : Nat) : Int)
      split <;> split <;> omega
    · rw [e0]
      unfold spotOf
      split <;> omega
  | r + 1 => by
    obtain ⟨ih, par⟩ := dest_posF (t := t) hp r
    have hn : 0 < n := by omega
    have es := spot_step hn (spotOf n p t + r)
    have e1 : (spotOf n p t + ((r + 1 : Nat) : Int)) = spotOf n p t + r + 1 := by omega
    unfold dest placeOf at ih
    have s0 := Int.emod_nonneg (spotOf n p t + r) (show (2 * n : Int) ≠ 0 by omega)
    have s1 := Int.emod_lt_of_pos (spotOf n p t + r) (show (0 : Int) < 2 * n by omega)
    constructor
    · show placeOf n ((spotOf n p t + ((r + 1 : Nat) : Int)) % (2 * n)) = ((sg n (t + r) (posF n t p r) : Nat) : Int)
      rw [e1, es]
      generalize (spotOf n p t + r) % (2 * n : Int) = s at *
      unfold placeOf sg
      have hl := posF_lt (t := t) hp r
      generalize posF n t p r = q at *
      split at ih <;> split <;> split <;> split <;> (try split) <;> omega
    · rw [e1, es]
      generalize (spotOf n p t + r) % (2 * n : Int) = s at *
      split <;> omega
/-! ### the line after r rounds, the first of which is round t -/
def lineF (L : List Int) (t : Nat) : Nat → List Int
  | 0 => L
  | r + 1 => stepL (lineF L t r) (t + r)
theorem lineF_len {L : List Int} {t : Nat} : ∀ r, (lineF L t r).length = L.length
  | 0 => rfl
  | r + 1 => stepL_len.trans (lineF_len r)
theorem lineF_zero {L : List Int} : ∀ r, lineF L 0 r = lineAt L r
  | 0 => rfl
  | r + 1 => by
    show stepL (lineF L 0 r) (0 + r) = stepL (lineAt L r) r
    rw [lineF_zero r, Nat.zero_add]
theorem lineF_pos {L : List Int} {t p : Nat} (h : p < L.length) : ∀ r, (lineF L t r).getD (posF L.length t p r) 0 = L.getD p 0
  | 0 => rfl
  | r + 1 => by
    show (stepL (lineF L t r) (t + r)).getD (sg L.length (t + r) (posF L.length t p r)) 0 = _
    have e := lineF_len (L := L) (t := t) r
    rw [stepL_get (by rw [e]; exact sg_lt (posF_lt h r)), e, sg_sg (posF_lt h r)]
    exact lineF_pos h r
theorem lineF_nd {L : List Int} (nd : L.Nodup) (t : Nat) : ∀ r, (lineF L t r).Nodup
  | 0 => nd
  | r + 1 => sg_inj_nodup (lineF_nd nd t r) _
theorem stepL_perm {L : List Int} (t : Nat) : List.Perm (stepL L t) L := by
  have h := (sg_perm L.length t).map (fun q => L.getD q 0)
  rw [List.map_map, getD_map] at h
  exact h
theorem lineF_perm {L : List Int} (t : Nat) : ∀ r, List.Perm (lineF L t r) L
  | 0 => .refl _
  | r + 1 => (stepL_perm _).trans (lineF_perm t r)
theorem lineF_ok {L : List Int} (h : LineOk L) (t r : Nat) : LineOk (lineF L t r) :=
  ⟨by rw [lineF_len]; exact h.lo, by rw [lineF_len]; exact h.hi, fun x hx => h.rg x ((lineF_perm t r).mem_iff.mp hx), lineF_nd h.nd t r⟩
theorem lineF_par {L : List Int} {t u : Nat} (h : t % 2 = u % 2) : ∀ r, lineF L t r = lineF L u r
  | 0 => rfl
  | r + 1 => by
    show stepL (lineF L t r) (t + r) = stepL (lineF L u r) (u + r)
    rw [lineF_par h r, stepL_par (show (t + r) % 2 = (u + r) % 2 by omega)]
theorem lineF_add {L : List Int} {t r : Nat} : ∀ k, lineF L t (r + k) = lineF (lineF L t r) (t + r) k
  | 0 => rfl
  | k + 1 => by
    show stepL (lineF L t (r + k)) (t + (r + k)) = stepL (lineF (lineF L t r) (t + r) k) (t + r + k)
    rw [lineF_add k, Nat.add_assoc]
theorem stepL_stepL {L : List Int} (t : Nat) : stepL (stepL L t) t = L := by
  refine ext_getD (by rw [stepL_len, stepL_len]) fun q hq => ?_
  rw [stepL_len, stepL_len] at hq
  rw [stepL_get (by rw [stepL_len]; exact hq), stepL_len, stepL_get (sg_lt hq), sg_sg hq]
theorem lineF_one {L : List Int} (r : Nat) : lineF L 1 r = lineAt (stepL L 0) (r + 1) := by
  have h := lineF_add (L := stepL L 0) (t := 0) (r := 1) r
  rw [show lineF (stepL L 0) 0 1 = L from stepL_stepL 0, Nat.zero_add, Nat.add_comm 1 r, lineF_zero] at h
  exact h.symm
theorem lineF_period (L : List Int) (t m : Nat) : lineF L t (2 * L.length * m) = L := by
  by_cases h : t % 2 = 0
  · rw [lineF_par (u := 0) h, lineF_zero, lineAt_mod, Nat.mul_mod_right]
    rfl
  · rw [lineF_par (u := 1) (by omega), lineF_one, lineAt_mod, stepL_len, Nat.add_comm, Nat.add_mul_mod_self_left, ← stepL_len (L := L) (t := 0), ← lineAt_mod]
    exact stepL_stepL 0
theorem rowsF_perm (ns : List Int) (t r : Nat) : List.Perm (rowsF ns.length t r 0 ns) (target (lineF ns t r)) := by
  have e : rowsF ns.length t r 0 ns = ((List.range ns.length).map fun p => posF ns.length t p r).map fun (q : Nat) => ((q : Int), (lineF ns t r).getD q 0) := by
    rw [rowsF_eq, List.map_map]
    apply List.map_congr_left
    intro p hp
    have hp := List.mem_range.mp hp
    show (dest ns.length ((0 + p : Nat) : Int) t r, ns.getD p 0) = (((posF ns.length t p r : Nat) : Int), (lineF ns t r).getD (posF ns.length t p r) 0)
    rw [Nat.zero_add, (dest_posF hp r).1, lineF_pos hp r]
  rw [e, target, lineF_len]
  exact (posF_perm ns.length t r).map _
theorem sort_rowsF (ns : List Int) (t r : Nat) : sortD ((rowsF ns.length t r 0 ns).map pairD) = (target (lineF ns t r)).map pairD := by
  refine sort_eq ((rowsF_perm ns t r).map _) ?_ ?_
  · rw [List.pairwise_map]
    unfold target
    rw [List.pairwise_map]
    refine List.Pairwise.imp (fun {a b} hab => ?_) List.pairwise_lt_range
    show leD (.tuple [.int (a : Nat), .int _]) (.tuple [.int (b : Nat), .int _]) = true
    rw [le2, decide_eq_true (by omega)]
    rfl
  · rintro x y hx hy h1 h2
    obtain ⟨a, _, rfl⟩ := List.mem_map.mp hx
    obtain ⟨b, _, rfl⟩ := List.mem_map.mp hy
    unfold pairD at *
    rw [le2] at h1 h2
    simp only [Bool.or_eq_true, Bool.and_eq_true, decide_eq_true_eq] at h1 h2
    have e1 : a.1 = b.1 := by omega
    have e2 : a.2 = b.2 := by omega
    rw [e1, e2]
/-! ### moved -/
def MovedG (f : FI) : Prop := f.io = false ∧ ∀ (ns : List Int) (t r : Nat), 0 < ns.length → ns.length ≤ 1000 → f.sem [intsT ns, .int t, .int r] = .ok (intsT (lineF ns t r)) false
theorem sem_movedG {cx : Ctx} {fp fq : FI} {p q : Nat} (hp : cx.fs[p]? = some fp) (Hp : PlaceF fp) (hq : cx.fs[q]? = some fq) (Hq : SpotF fq) (ns : List Int) (t r : Nat) (h0 : 0 < ns.length) (h1 : ns.length ≤ 1000) : run cx 7 false (movedC p q) [intsT ns, .int t, .int r] = .ok (intsT (lineF ns t r)) false := by
  have hb : (big : Nat) = 10000000 := rfl
  obtain ⟨s5, s6, hl⟩ := mv_loop hp Hp hq Hq (l := intsT ns) (t := t) (r := r) (n := ns.length) (by omega) (by omega) ns 0 [] .no .no (by rw [List.length_nil]; omega)
  have rl : (rowsF ns.length t r 0 ns).length = ns.length := rowsF_len ..
  generalize hrows : rowsF ns.length t r 0 ns = rows at hl rl
  have tl : (target (lineF ns t r)).length = ns.length := by unfold target; rw [List.length_map, List.length_range, lineF_len]
  have e1 : xec cx (.asg 3 (.bi .len (.cons (.v 0) .nil))) [.fz (intsT ns), .fz (.int t), .fz (.int r), .no, .no, .no, .no] = .nx [.fz (intsT ns), .fz (.int t), .fz (.int r), .fz (.int ns.length), .no, .no, .no] := by
    have : ev cx (.bi .len (.cons (.v 0) .nil)) [.fz (intsT ns), .fz (.int t), .fz (.int r), .no, .no, .no, .no] = .ok (.d (.int (ns.map PyData.int).length), [.fz (intsT ns), .fz (.int t), .fz (.int r), .no, .no, .no, .no]) := rfl
    rw [List.length_map] at this
    exact xec_asg this rfl
  have e2 : xec cx (.asg 4 (.lst .nil)) [.fz (intsT ns), .fz (.int t), .fz (.int r), .fz (.int ns.length), .no, .no, .no] = .nx [.fz (intsT ns), .fz (.int t), .fz (.int r), .fz (.int ns.length), .ow (.list []), .no, .no] := rfl
  have e3 := xec_for (cx := cx) (tg := .t [5, 6]) (w := .enum) (it := .cons (.v 0) .nil) (body := movedBody p q) (ρ := [.fz (intsT ns), .fz (.int t), .fz (.int r), .fz (.int ns.length), .ow (.list []), .no, .no]) (rs := [.d (intsT ns)]) (ds := [intsT ns]) (items := enumD 0 (ns.map .int)) rfl rfl rfl rfl
  have e4 : xec cx (.for (.t [5, 6]) .enum (.cons (.v 0) .nil) (movedBody p q)) [.fz (intsT ns), .fz (.int t), .fz (.int r), .fz (.int ns.length), .ow (.list []), .no, .no] = .nx [.fz (intsT ns), .fz (.int t), .fz (.int r), .fz (.int ns.length), .ow (.list (rows.map pairD)), s5, s6] := e3.trans hl
  have e5 : ev cx (.bi .sorted (.cons (.v 4) .nil)) [.fz (intsT ns), .fz (.int t), .fz (.int r), .fz (.int ns.length), .ow (.list (rows.map pairD)), s5, s6] = .ok (.f (.list ((target (lineF ns t r)).map pairD)), [.fz (intsT ns), .fz (.int t), .fz (.int r), .fz (.int ns.length), .ow (.list (rows.map pairD)), s5, s6]) := by
    refine ev_bi (rs := [.o 4]) (ds := [.list (rows.map pairD)]) rfl rfl ?_
    show (sorts (rows.map pairD)).bind (fun ys => some (Rv.f (.list ys))) = _
    rw [sorts_pairs _ (by omega), ← hrows, sort_rowsF]
    rfl
  have lc := lc_snd (cx := cx) (s0 := .fz (intsT ns)) (s1 := .fz (.int t)) (s2 := .fz (.int r)) (s3 := .fz (.int ns.length)) (s4 := .ow (.list (rows.map pairD))) (target (lineF ns t r)) []
  have e6 := ev_lc (cx := cx) (own := [5, 6]) (elt := .v 6) (tg := .t [5, 6]) (w := .seq) (it := .cons (.bi .sorted (.cons (.v 4) .nil)) .nil) (ifs := .k (.bool true)) (ρ1 := [.fz (intsT ns), .fz (.int t), .fz (.int r), .fz (.int ns.length), .ow (.list (rows.map pairD)), s5, s6]) (rs := [.f (.list ((target (lineF ns t r)).map pairD))]) (ds := [.list ((target (lineF ns t r)).map pairD)]) (items := (target (lineF ns t r)).map pairD) (ev_cons e5 rfl) rfl rfl (by rw [List.length_map]; omega) lc
  refine run_rt (ρ0 := [.fz (intsT ns), .fz (.int t), .fz (.int r), .no, .no, .no, .no]) rfl ⟨[.fz (intsT ns), .fz (.int t), .fz (.int r), .fz (.int ns.length), .ow (.list (rows.map pairD)), s5, s6], ?_⟩
  unfold movedC
  rw [xec_seq e1, xec_seq e2, xec_seq e4]
  rw [target_snd] at e6
  have e7 := ev_bi (b := .tuple) (rs := [.f (intsL (lineF ns t r))]) (ds := [intsL (lineF ns t r)]) (ev_cons e6 (b := .nil) rfl) rfl (z := .d (intsT (lineF ns t r))) rfl
  show (F.seq (lift (ev cx _ _) retF) _) = _
  rw [e7]
  rfl
theorem MovedG.f {f : FI} (h : MovedG f) : MovedF f := ⟨h.1, fun ns t h0 h1 => by rw [← lineF_zero]; exact h.2 ns 0 t h0 h1⟩
end Iv
set_option maxRecDepth 100000
set_option maxHeartbeats 4000000
/-! P2: steps. -/
namespace Iv
open PySem PySem.Spec PyProof.Rows L2
inductive Step where
  | rounds (k : Nat) | join (x : Int) | leave (x : Int)
def stepD : Step → D
  | .rounds k => .tuple [.str "rounds", .int k]
  | .join x => .tuple [.str "join", .int x]
  | .leave x => .tuple [.str "leave", .int x]
/-- who is there behind a step, the order aside -/
def whoS (H : List Int) : Step → List Int
  | .rounds _ => H
  | .join x => H ++ [x]
  | .leave x => H.filter fun y => decide (y ≠ x)
def whoA (H : List Int) : List Step → List Int
  | [] => H
  | s :: r => whoA (whoS H s) r
def okS (m : Nat) (H : List Int) : Step → Prop
  | .rounds k => k ≤ m
  | .join x => 0 ≤ x ∧ x ≤ 99 ∧ x ∉ H ∧ H.length < 24
  | .leave x => x ∈ H ∧ 2 < H.length
def okA (m : Nat) (H : List Int) : List Step → Prop
  | [] => True
  | s :: r => okS m H s ∧ okA m (whoS H s) r
theorem whoA_snoc {s : Step} : ∀ {st : List Step} {H : List Int}, whoA H (st ++ [s]) = whoS (whoA H st) s
  | [], H => rfl
  | a :: st, H => whoA_snoc (st := st)
theorem okA_snoc {m : Nat} {s : Step} : ∀ {st : List Step} {H : List Int}, okA m H (st ++ [s]) ↔ okA m H st ∧ okS m (whoA H st) s
  | [], H => by
    show okS m H s ∧ True ↔ True ∧ okS m H s
    exact ⟨fun h => ⟨trivial, h.1⟩, fun h => ⟨h.2, trivial⟩⟩
  | a :: st, H => by
    show okS m H a ∧ okA m (whoS H a) (st ++ [s]) ↔ (okS m H a ∧ okA m (whoS H a) st) ∧ okS m (whoA (whoS H a) st) s
    rw [okA_snoc (st := st), and_assoc]
theorem filter_len {H : List Int} (nd : H.Nodup) {x : Int} (hx : x ∈ H) : (H.filter fun y => decide (y ≠ x)).length + 1 = H.length := by
  induction H with
  | nil => cases hx
  | cons a H ih =>
    obtain ⟨n1, n2⟩ := List.nodup_cons.mp nd
    by_cases h : a = x
    · subst h
      rw [List.filter_cons_of_neg (by simp)]
      have : (H.filter fun y => decide (y ≠ a)) = H := List.filter_eq_self.mpr fun y hy => decide_eq_true fun e => n1 (e ▸ hy)
      rw [this, List.length_cons]
    · rw [List.filter_cons_of_pos (by simpa using h), List.length_cons, List.length_cons, ih n2]
      rcases List.mem_cons.mp hx with e | e
      · exact absurd e.symm h
      · exact e
theorem who_ok {m : Nat} {H : List Int} {s : Step} (h : LineOk H) (ok : okS m H s) : LineOk (whoS H s) := by
  cases s with
  | rounds k => exact h
  | join x =>
    obtain ⟨h1, h2, h3, h4⟩ := ok
    refine ⟨by show 2 ≤ (H ++ [x]).length; rw [List.length_append]; have := h.lo; omega, by show (H ++ [x]).length ≤ 24; rw [List.length_append, List.length_singleton]; omega, fun y hy => ?_, ?_⟩
    · rcases List.mem_append.mp hy with hy | hy
      · exact h.rg y hy
      · rw [List.mem_singleton.mp hy]; exact ⟨h1, h2⟩
    · show (H ++ [x]).Nodup
      rw [List.nodup_append]
      exact ⟨h.nd, List.nodup_cons.mpr ⟨List.not_mem_nil, List.nodup_nil⟩, fun a ha b hb e => h3 (by rw [← List.mem_singleton.mp hb, ← e]; exact ha)⟩
  | leave x =>
    obtain ⟨h1, h2⟩ := ok
    have hl := filter_len h.nd h1
    exact ⟨by show 2 ≤ (H.filter _).length; omega, by show (H.filter _).length ≤ 24; have := h.hi; omega, fun y hy => h.rg y (List.mem_filter.mp hy).1, h.nd.sublist List.filter_sublist⟩
theorem whoA_ok {m : Nat} : ∀ {st : List Step} {H : List Int}, LineOk H → okA m H st → LineOk (whoA H st)
  | [], _, h, _ => h
  | _ :: st, _, h, ok => whoA_ok (st := st) (who_ok h ok.1) ok.2
/-! ### the lines -/
def lnS (L : List Int) (t : Nat) : Step → List Int
  | .rounds k => lineF L t k
  | .join x => L ++ [x]
  | .leave x => L.filter fun y => decide (y ≠ x)
def nmS (t : Nat) : Step → Nat
  | .rounds k => t + k
  | _ => t
/-- the lines and numbers behind the steps -/
def stA (p : List Int × Nat) : List Step → List (List Int × Nat)
  | [] => []
  | s :: r => (lnS p.1 p.2 s, nmS p.2 s) :: stA (lnS p.1 p.2 s, nmS p.2 s) r
def endA (p : List Int × Nat) : List Step → List Int × Nat
  | [] => p
  | s :: r => endA (lnS p.1 p.2 s, nmS p.2 s) r
theorem lnS_perm {L H : List Int} {t : Nat} {s : Step} (h : List.Perm L H) : List.Perm (lnS L t s) (whoS H s) := by
  cases s with
  | rounds k => exact (lineF_perm t k).trans h
  | join x => exact h.append_right _
  | leave x => exact h.filter _
theorem okS_perm {m : Nat} {L H : List Int} {s : Step} (h : List.Perm L H) (ok : okS m H s) : okS m L s := by
  cases s with
  | rounds k => exact ok
  | join x => exact ⟨ok.1, ok.2.1, fun z => ok.2.2.1 (h.mem_iff.mp z), by rw [h.length_eq]; exact ok.2.2.2⟩
  | leave x => exact ⟨h.mem_iff.mpr ok.1, by rw [h.length_eq]; exact ok.2⟩
theorem perm_ok {L H : List Int} (h : List.Perm L H) (ok : LineOk H) : LineOk L :=
  ⟨by rw [h.length_eq]; exact ok.lo, by rw [h.length_eq]; exact ok.hi, fun x hx => ok.rg x (h.mem_iff.mp hx), h.nodup_iff.mpr ok.nd⟩
theorem lnS_ok {m : Nat} {L : List Int} {t : Nat} {s : Step} (h : LineOk L) (ok : okS m L s) : LineOk (lnS L t s) := perm_ok (lnS_perm (.refl L)) (who_ok h ok)
theorem stA_len : ∀ {st : List Step} {p : List Int × Nat}, (stA p st).length = st.length
  | [], _ => rfl
  | _ :: st, _ => by rw [stA, List.length_cons, List.length_cons, stA_len (st := st)]
/-- the state behind i steps -/
theorem stA_get : ∀ {st : List Step} {p : List Int × Nat} {i : Nat}, i ≤ st.length → (p :: stA p st)[i]? = some (endA p (st.take i))
  | _, p, 0, _ => by rw [List.take_zero]; rfl
  | [], _, i + 1, h => by simp at h
  | s :: st, p, i + 1, h => by
    rw [List.getElem?_cons_succ, List.take_succ_cons]
    exact stA_get (st := st) (by simpa using h)
theorem endA_append : ∀ {a b : List Step} {p : List Int × Nat}, endA p (a ++ b) = endA (endA p a) b
  | [], _, _ => rfl
  | _ :: a, _, _ => endA_append (a := a)
/-- numbers that are alike by parity give the same lines -/
theorem endA_par : ∀ {st : List Step} {L : List Int} {t u : Nat}, t % 2 = u % 2 → (endA (L, t) st).1 = (endA (L, u) st).1 ∧ (endA (L, t) st).2 % 2 = (endA (L, u) st).2 % 2
  | [], _, _, _, h => ⟨rfl, h⟩
  | s :: st, L, t, u, h => by
    have e : lnS L t s = lnS L u s := by
      cases s with
      | rounds k => exact lineF_par h k
      | join _ => rfl
      | leave _ => rfl
    have e2 : nmS t s % 2 = nmS u s % 2 := by
      cases s with
      | rounds k => show (t + k) % 2 = (u + k) % 2; omega
      | join _ => exact h
      | leave _ => exact h
    show (endA (lnS L t s, nmS t s) st).1 = (endA (lnS L u s, nmS u s) st).1 ∧ (endA (lnS L t s, nmS t s) st).2 % 2 = (endA (lnS L u s, nmS u s) st).2 % 2
    rw [e]
    exact endA_par (st := st) e2
theorem okA_mono {m m' : Nat} (hm : m ≤ m') : ∀ {st : List Step} {H : List Int}, okA m H st → okA m' H st
  | [], _, _ => trivial
  | s :: st, H, h => ⟨by cases s with
      | rounds k => exact Nat.le_trans h.1 hm
      | join _ => exact h.1
      | leave _ => exact h.1, okA_mono hm h.2⟩
theorem okA_perm {m : Nat} : ∀ {st : List Step} {L H : List Int}, List.Perm L H → okA m H st → okA m L st
  | [], _, _, _, _ => trivial
  | s :: st, L, H, h, ok => ⟨okS_perm h ok.1, okA_perm (st := st) (by
      cases s with
      | rounds _ => exact h
      | join x => exact h.append_right _
      | leave x => exact h.filter _) ok.2⟩
theorem okA_append {m : Nat} : ∀ {a b : List Step} {H : List Int}, okA m H (a ++ b) ↔ okA m H a ∧ okA m (whoA H a) b
  | [], b, H => by
    show okA m H b ↔ True ∧ okA m H b
    exact ⟨fun h => ⟨trivial, h⟩, fun h => h.2⟩
  | s :: a, b, H => by
    show okS m H s ∧ okA m (whoS H s) (a ++ b) ↔ (okS m H s ∧ okA m (whoS H s) a) ∧ okA m (whoA (whoS H s) a) b
    rw [okA_append (a := a), and_assoc]
theorem endA_perm : ∀ {st : List Step} {p : List Int × Nat}, List.Perm (endA p st).1 (whoA p.1 st)
  | [], _ => .refl _
  | s :: st, p => by
    refine (endA_perm (st := st) (p := (lnS p.1 p.2 s, nmS p.2 s))).trans ?_
    show List.Perm (whoA (lnS p.1 p.2 s) st) (whoA (whoS p.1 s) st)
    have : ∀ {st : List Step} {L H : List Int}, List.Perm L H → List.Perm (whoA L st) (whoA H st) := by
      intro st
      induction st with
      | nil => exact fun h => h
      | cons s st ih =>
        intro L H h
        refine ih ?_
        cases s with
        | rounds _ => exact h
        | join x => exact h.append_right _
        | leave x => exact h.filter _
    exact this (lnS_perm (.refl _))
end Iv
set_option maxRecDepth 100000
set_option maxHeartbeats 4000000
/-! E3: what the simp runs lean on. -/
namespace Iv
open PySem PySem.Spec PyProof.Rows L2
theorem bigN : (big : Nat) = 10000000 := rfl
theorem ltI (a b : Int) : cmpop .Lt (.int a) (.int b) = some (decide (a < b)) := nr rfl
theorem leI (a b : Int) : cmpop .LtE (.int a) (.int b) = some (decide (a ≤ b)) := nr rfl
theorem gtI (a b : Int) : cmpop .Gt (.int a) (.int b) = some (decide (b < a)) := nr rfl
theorem geI (a b : Int) : cmpop .GtE (.int a) (.int b) = some (decide (b ≤ a)) := nr rfl
theorem neI (a b : Int) : cmpop .NotEq (.int a) (.int b) = some (!decide (a = b)) := by
  show (if SeqAt.shaped (.int a) = true ∧ SeqAt.shaped (.int b) = true then some (!PyData.eqv (.int a) (.int b)) else none) = _
  rw [if_pos ⟨rfl, rfl⟩]
  congr 1
theorem addI (a b : Int) : binop .Add (.int a) (.int b) = some (.d (.int (a + b))) := nr rfl
theorem subI (a b : Int) : binop .Sub (.int a) (.int b) = some (.d (.int (a - b))) := nr rfl
theorem addT {a b : List Int} (h : a.length + b.length ≤ big) : binop .Add (intsT a) (intsT b) = some (.d (intsT (a ++ b))) := by
  unfold intsT
  show (if _ then _ else none) = _
  rw [if_pos (by rw [List.length_map, List.length_map]; exact h), List.map_append]
theorem addT1 {a : List Int} {x : Int} (h : a.length + 1 ≤ big) : binop .Add (intsT a) (.tuple [.int x]) = some (.d (intsT (a ++ [x]))) := addT (b := [x]) h
theorem addTT {a b : List D} (h : a.length + b.length ≤ big) : binop .Add (.tuple a) (.tuple b) = some (.d (.tuple (a ++ b))) := by
  show (if _ then _ else none) = _
  rw [if_pos h]
theorem inT (L : List Int) (x : Int) : cmpop .In (.int x) (intsT L) = some (decide (x ∈ L)) := by
  show (if SeqAt.shaped (.int x) = true ∧ SeqAt.shaped (intsT L) = true then some ((L.map PyData.int).any fun z => PyData.eqv z (.int x)) else none) = _
  rw [if_pos ⟨rfl, shaped_intsT L⟩, any_eqv]
theorem notInT (L : List Int) (x : Int) : cmpop .NotIn (.int x) (intsT L) = some (!decide (x ∈ L)) := by
  show (if SeqAt.shaped (.int x) = true ∧ SeqAt.shaped (intsT L) = true then some (!(L.map PyData.int).any fun z => PyData.eqv z (.int x)) else none) = _
  rw [if_pos ⟨rfl, shaped_intsT L⟩, any_eqv]
theorem notInL (L : List Int) (x : Int) : cmpop .NotIn (.int x) (intsL L) = some (!decide (x ∈ L)) := by
  show (if SeqAt.shaped (.int x) = true ∧ SeqAt.shaped (.list (L.map .int)) = true then some (!(L.map PyData.int).any fun z => PyData.eqv z (.int x)) else none) = _
  rw [if_pos ⟨rfl, shaped_ints L⟩, any_eqv]
theorem lenT (L : List Int) : fLen (intsT L) = some (.d (.int L.length)) := by
  show some (Rv.d (.int ((L.map PyData.int).length : Nat))) = _
  rw [List.length_map]
theorem lenL (L : List Int) : fLen (intsL L) = some (.d (.int L.length)) := by
  show some (Rv.d (.int ((L.map PyData.int).length : Nat))) = _
  rw [List.length_map]
theorem lenTT (L : List D) : fLen (.tuple L) = some (.d (.int L.length)) := nr rfl
theorem lenLL (L : List D) : fLen (.list L) = some (.d (.int L.length)) := nr rfl
theorem eqS {a b : Str} (ha : SeqAt.shaped (.str a) = true) (hb : SeqAt.shaped (.str b) = true) : cmpop .Eq (.str a) (.str b) = some (decide (a = b)) := by
  show (if SeqAt.shaped (.str a) = true ∧ SeqAt.shaped (.str b) = true then some (PyData.eqv (.str a) (.str b)) else none) = _
  rw [if_pos ⟨ha, hb⟩]
  congr 1
theorem neS {a b : Str} (ha : SeqAt.shaped (.str a) = true) (hb : SeqAt.shaped (.str b) = true) : cmpop .NotEq (.str a) (.str b) = some (!decide (a = b)) := by
  show (if SeqAt.shaped (.str a) = true ∧ SeqAt.shaped (.str b) = true then some (!PyData.eqv (.str a) (.str b)) else none) = _
  rw [if_pos ⟨ha, hb⟩]
  congr 1
theorem tupleL (L : List Int) : fTuple (intsL L) = some (.d (intsT L)) := nr rfl
theorem tupleLL (L : List D) : fTuple (.list L) = some (.d (.tuple L)) := nr rfl
theorem walk1 {n : Nat} (h : n ≤ lim) : walked .r1 [.int n] = some (rangeD 0 n) := by
  have := limN
  rw [walked1 (by omega) (by omega), Int.toNat_natCast]
theorem walkT {L : List D} : walked .seq [.tuple L] = some L := nr rfl
theorem walkL {L : List D} : walked .seq [.list L] = some L := nr rfl
theorem walkIT {L : List Int} : walked .seq [intsT L] = some (L.map .int) := nr rfl
theorem walkIL {L : List Int} : walked .seq [intsL L] = some (L.map .int) := nr rfl
def filtD (p : Int → Bool) : D → Option D
  | .int x => if p x = true then some (.int x) else none
  | _ => none
theorem filtD_map (p : Int → Bool) : ∀ L : List Int, (L.map PyData.int).filterMap (filtD p) = (L.filter p).map PyData.int
  | [] => rfl
  | x :: L => by
    by_cases hp : p x = true
    · rw [List.map_cons, List.filterMap_cons_some (b := .int x) (by simp [filtD, hp]), filtD_map p L, List.filter_cons_of_pos hp]
      rfl
    · rw [List.map_cons, List.filterMap_cons_none (by simp [filtD, hp]), filtD_map p L, List.filter_cons_of_neg hp]
/-- [x for x in L if p x] -/
theorem ev_lcFilt {cx : Ctx} {k : Nat} {w : Wk} {it ifs : C} {ρ : Env} {rs : List Rv} {ds : List D} {L : List Int} (p : Int → Bool) (h1 : ev cx it ρ = .ok (.l rs, ρ)) (h2 : reads ρ rs = some ds) (h3 : walked w ds = some (L.map .int)) (h4 : L.length ≤ big) (hk : k < ρ.length)
    (h5 : ∀ x ∈ L, ∀ ρ1, ρ1 = (wipeE (wipeE ρ (lent rs)) [k]).set k (.fz (.int x)) → ev cx ifs ρ1 = .ok (.d (.bool (p x)), ρ1)) :
    ev cx (.lc [k] (.v k) (.n k) w it ifs) ρ = .ok (.f (intsL (L.filter p)), ρ) := by
  have e := ev_lcP (cx := cx) (own := [k]) (elt := .v k) (tg := .n k) (ifs := ifs) (filtD p) h1 h2 h3 (by rw [List.length_map]; exact h4) (fun i hi => hi) (fun d hd => by
    obtain ⟨x, hx, rfl⟩ := List.mem_map.mp hd
    refine ⟨_, rfl, ?_⟩
    have q := h5 x hx _ rfl
    by_cases hp : p x = true
    · rw [show filtD p (.int x) = some (.int x) by simp [filtD, hp]]
      rw [hp] at q
      exact ⟨q, .d (.int x), ev_v (get_set_self (by rw [len_wipeE, len_wipeE]; exact hk)), rfl⟩
    · rw [show filtD p (.int x) = none by simp [filtD, hp]]
      rw [Bool.not_eq_true] at hp
      rw [hp] at q
      exact q)
  rw [e, filtD_map]
  rfl
theorem rangeD_left0 : rangeD 0 100 = left0.map .int := by
  unfold rangeD left0
  rw [List.map_map]
  apply List.map_congr_left
  intro i _
  show PyData.int (0 + (i : Int)) = .int i
  rw [Int.zero_add]
theorem sh_rounds : SeqAt.shaped (.str "rounds") = true := by decide +kernel
theorem sh_join : SeqAt.shaped (.str "join") = true := by decide +kernel
theorem sh_leave : SeqAt.shaped (.str "leave") = true := by decide +kernel
theorem n_jr : ¬ ("join" : Str) = "rounds" := by decide +kernel
theorem n_lr : ¬ ("leave" : Str) = "rounds" := by decide +kernel
theorem n_lj : ¬ ("leave" : Str) = "join" := by decide +kernel
end Iv
set_option maxRecDepth 100000
set_option maxHeartbeats 4000000
/-! P3: steps drawn. -/
namespace Iv
open PySem PySem.Spec PyProof.Rows L2
def stepsC_l0 : C := (.lc [10] (.v 10) (.n 10) .r1 (.cons (.k (.int 100)) .nil) (.tr (.cmp .NotIn (.v 10) (.v 4))))
def stepsC_l1 : C := (.lc [10] (.v 10) (.n 10) .seq (.cons (.v 4) .nil) (.tr (.cmp .NotEq (.v 10) (.v 9))))
def stepsC_b0 (i_law_take i_law_of : Nat) : S := (.seq (.asg 7 (.call i_law_take (.cons (.v 0) (.cons (.k (.int 3)) .nil)))) (.seq (.ife (.andt (.tr (.cmp .Eq (.v 7) (.k (.int 1)))) (.tr (.cmp .Lt (.bi .len (.cons (.v 4) .nil)) (.k (.int 24))))) (.seq (.asg 8 (.call i_law_of (.cons (.v 0) (.cons stepsC_l0 .nil)))) (.seq (.asgT [4, 5] (.tup (.cons (.op .Add (.v 4) (.tup (.cons (.v 8) .nil))) (.cons (.op .Add (.v 5) (.tup (.cons (.tup (.cons (.k (.str "join")) (.cons (.v 8) .nil))) .nil))) .nil)))) .nil)) (.seq (.ife (.andt (.tr (.cmp .Eq (.v 7) (.k (.int 2)))) (.tr (.cmp .Gt (.bi .len (.cons (.v 4) .nil)) (.k (.int 2))))) (.seq (.asg 9 (.call i_law_of (.cons (.v 0) (.cons (.v 4) .nil)))) (.seq (.asgT [4, 5] (.tup (.cons (.bi .tuple (.cons stepsC_l1 .nil)) (.cons (.op .Add (.v 5) (.tup (.cons (.tup (.cons (.k (.str "leave")) (.cons (.v 9) .nil))) .nil))) .nil)))) .nil)) (.seq (.asg 5 (.op .Add (.v 5) (.tup (.cons (.tup (.cons (.k (.str "rounds")) (.cons (.call i_law_take (.cons (.v 0) (.cons (.v 3) .nil))) .nil))) .nil)))) .nil)) .nil)) .nil))
def stepsC (i_law_take i_law_of : Nat) : S := (.seq (.asgT [4, 5] (.tup (.cons (.v 1) (.cons (.tup .nil) .nil)))) (.seq (.for (.n 6) .r1 (.cons (.call i_law_take (.cons (.v 0) (.cons (.op .Add (.v 2) (.k (.int 1))) .nil))) .nil) (stepsC_b0 i_law_take i_law_of)) (.seq (.ret (.v 5)) .nil)))
def StepsF (f : FI) : Prop := f.io = true ∧ ∀ (L : List Int) (a s : Int) (m w : Nat), LineOk L → BagOk a s → m ≤ 40 → 0 < w → w ≤ 1000 → ∃ st a' s', f.sem [bagD a s, intsT L, .int m, .int w] = .io (.tuple (st.map stepD)) false (bagD a' s') ∧ BagOk a' s' ∧ okA w L st ∧ st.length ≤ m
theorem callF_of {cx : Ctx} {t : Nat} {ft : FI} (hf : cx.fs[t]? = some ft) (O : OfG ft) {ρ ρ2 : Env} {i : Nat} {a s : Int} {r : Rv} {d : D} {xs : List D} (hd : seqOf d = some xs) (he : esc ρ r = some (d, ρ2)) (g : get ρ2 i = .ow (bagD a s)) (ok : BagOk a s) (h0 : 0 < xs.length) (h1 : xs.length ≤ 1000) :
    ∃ x a' s', callF cx t [.o i, r] ρ = .ok (.d x, ρ2.set i (.ow (bagD a' s'))) ∧ x ∈ xs ∧ BagOk a' s' := by
  obtain ⟨x, a', s', h, q⟩ := O.2 a s d xs hd ok h0 h1
  exact ⟨x, a', s', callF_io (fr := false) (rs := [r]) (ds := [d]) hf O.1 (by rw [escs, he]; rfl) g h, q⟩
theorem nodup_le {l : List Int} : ∀ {m : List Int}, l.Nodup → (∀ x ∈ l, x ∈ m) → l.length ≤ m.length := by
  induction l with
  | nil => exact fun _ _ => Nat.zero_le _
  | cons a l ih =>
    intro m nd h
    obtain ⟨n1, n2⟩ := List.nodup_cons.mp nd
    have ha : a ∈ m := h a List.mem_cons_self
    have := ih (m := m.erase a) n2 fun x hx => (List.mem_erase_of_ne (fun e : x = a => n1 (e ▸ hx))).mpr (h x (List.mem_cons_of_mem _ hx))
    rw [List.length_erase_of_mem ha] at this
    have : 0 < m.length := List.length_pos_of_mem ha
    rw [List.length_cons]
    omega
/-- some number is left -/
theorem left_some {H : List Int} (h : H.length < 24) : 0 < (left0.filter fun x => !decide (x ∈ H)).length := by
  rcases Nat.eq_zero_or_pos (left0.filter fun x => !decide (x ∈ H)).length with e | e
  · exfalso
    have e := List.length_eq_zero_iff.mp e
    have sub : ∀ x ∈ left0, x ∈ H := fun x hx => by
      by_cases hm : x ∈ H
      · exact hm
      · have : x ∈ left0.filter fun x => !decide (x ∈ H) := List.mem_filter.mpr ⟨hx, by simp [hm]⟩
        rw [e] at this
        cases this
    have := nodup_le left0_nd sub
    have ll : left0.length = 100 := by decide +kernel
    omega
  · exact e
/-- the state of the loop -/
def StI (L : List Int) (m w : Nat) (i : Nat) (ρ : Env) : Prop := ρ.length = 11 ∧ ∃ a s st, BagOk a s ∧ get ρ 0 = .ow (bagD a s) ∧ get ρ 3 = .fz (.int (w : Nat)) ∧ get ρ 4 = .fz (intsT (whoA L st)) ∧ get ρ 5 = .fz (.tuple (st.map stepD)) ∧ okA w L st ∧ st.length = i
theorem steps_turn {cx : Ctx} {ft fo : FI} {t o : Nat} (hf : cx.fs[t]? = some ft) (T : TakeOk ft) (ho : cx.fs[o]? = some fo) (O : OfG fo) {L : List Int} {m w i : Nat} {ρ : Env} {T0 : D → Bool → Env → Prop} (hL : LineOk L) (hw : 0 < w) (hw2 : w ≤ 1000) (hi : i < 40) (h : StI L m w i ρ) :
    Fx (xec cx (stepsC_b0 t o) ρ) (StI L m w (i + 1)) T0 := by
  obtain ⟨hl, a, s, st, ok, g0, g3, g4, g5, hok, hlen⟩ := h
  obtain ⟨r, a1, s1, hr, r1, ok1⟩ := callF_takeN hf T (ρ := ρ) (i := 0) 3 g0 ok (by decide) (by decide)
  have hH := whoA_ok hL hok
  have hlo := hH.lo
  have hhi := hH.hi
  simp at hr
  have fin : ∀ (ρ' : Env) (a' s' : Int) (x : Step), ρ'.length = 11 → BagOk a' s' → get ρ' 0 = .ow (bagD a' s') → get ρ' 3 = .fz (.int (w : Nat)) → get ρ' 4 = .fz (intsT (whoS (whoA L st) x)) → get ρ' 5 = .fz (.tuple (st.map stepD ++ [stepD x])) → okS w (whoA L st) x → StI L m w (i + 1) ρ' :=
    fun ρ' a' s' x h1 h2 h3 h4 h5 h6 h7 => ⟨h1, a', s', st ++ [x], h2, h3, h4, by rw [whoA_snoc]; exact h5, by rw [List.map_append]; exact h6, okA_snoc.mpr ⟨hok, h7⟩, by rw [List.length_append, hlen]; rfl⟩
  by_cases c1 : r = 1 ∧ (whoA L st).length < 24
  · obtain ⟨rfl, c1⟩ := c1
    have hlc : ∀ ρ1 : Env, ρ1.length = 11 → get ρ1 4 = .fz (intsT (whoA L st)) → ev cx stepsC_l0 ρ1 = .ok (.f (intsL (left0.filter fun x => !decide (x ∈ whoA L st))), ρ1) := fun ρ1 l1 q1 => by
      refine ev_lcFilt (rs := [.d (.int 100)]) (ds := [.int 100]) _ rfl rfl ?_ (by decide +kernel) (by omega) fun x hx ρ2 e2 => ?_
      · rw [← rangeD_left0]
        exact walk1 (n := 100) (by decide)
      · subst e2
        simp [l1, q1, notInT]
    obtain ⟨x, a2, s2, hx, hm, ok2⟩ := callF_of ho O (ρ := (ρ.set 0 (.ow (bagD a1 s1))).set 7 (.fz (.int 1))) (i := 0) (r := .f (intsL (left0.filter fun x => !decide (x ∈ whoA L st)))) (xs := (left0.filter fun x => !decide (x ∈ whoA L st)).map .int) rfl rfl (by simp [hl]) ok1 (by rw [List.length_map]; exact left_some c1) (by rw [List.length_map]; exact Nat.le_trans (List.length_filter_le _ _) (by decide +kernel))
    obtain ⟨x, hm2, rfl⟩ := List.mem_map.mp hm
    obtain ⟨m1, m2⟩ := List.mem_filter.mp hm2
    obtain ⟨r0, r9⟩ := left0_rg x m1
    have c2 : ((whoA L st).length : Int) < 24 := by omega
    have q1 : (whoA L st).length + 1 ≤ big := le_bigS (by omega)
    have q2 : st.length + 1 ≤ big := le_bigS (by omega)
    simp [stepsC_b0, g0, hr, hl, g4, g5, lenT, eqI, ltI, gtI, c2, hlc, hx, addT1, addTT, q1, q2]
    exact fin _ a2 s2 (.join x) (by simp [hl]) ok2 (by simp [hl]) (by simp [g3]) (by simp [hl, whoS]) (by simp [hl, stepD]) ⟨r0, r9, by simpa using m2, c1⟩
  · by_cases c2 : r = 2 ∧ 2 < (whoA L st).length
    · obtain ⟨rfl, c2⟩ := c2
      obtain ⟨x, a2, s2, hx, hm, ok2⟩ := callF_of ho O (ρ := (ρ.set 0 (.ow (bagD a1 s1))).set 7 (.fz (.int 2))) (i := 0) (r := .d (intsT (whoA L st))) (xs := (whoA L st).map .int) rfl rfl (by simp [hl]) ok1 (by rw [List.length_map]; omega) (by rw [List.length_map]; omega)
      obtain ⟨x, hm2, rfl⟩ := List.mem_map.mp hm
      have hlc : ∀ ρ1 : Env, ρ1.length = 11 → get ρ1 4 = .fz (intsT (whoA L st)) → get ρ1 9 = .fz (.int x) → ev cx stepsC_l1 ρ1 = .ok (.f (intsL ((whoA L st).filter fun y => !decide (y = x))), ρ1) := fun ρ1 l1 q1 q9 => by
        refine ev_lcFilt (rs := [.d (intsT (whoA L st))]) (ds := [intsT (whoA L st)]) _ (by simp [q1]) rfl rfl (le_bigS (by omega)) (by omega) fun y hy ρ2 e2 => ?_
        subst e2
        simp [l1, q9, neI]
      have c3 : (2 : Int) < ((whoA L st).length : Int) := by omega
      have q2 : st.length + 1 ≤ big := le_bigS (by omega)
      simp [stepsC_b0, g0, hr, hl, g4, g5, lenT, eqI, ltI, gtI, c3, hlc, hx, tupleL, addTT, q2]
      exact fin _ a2 s2 (.leave x) (by simp [hl]) ok2 (by simp [hl]) (by simp [g3]) (by simp [hl, whoS]) (by simp [hl, stepD]) ⟨hm2, c2⟩
    · obtain ⟨q, a2, s2, hq, q1, ok2⟩ := callF_takeN hf T (ρ := (ρ.set 0 (.ow (bagD a1 s1))).set 7 (.fz (.int r))) (i := 0) w (by simp [hl]) ok1 hw (by omega)
      have q2 : st.length + 1 ≤ big := le_bigS (by omega)
      have g3' : get ρ 3 = .fz (.int (w : Int)) := g3
      have cases3 : r = 0 ∨ (r = 1 ∧ 24 ≤ (whoA L st).length) ∨ (r = 2 ∧ (whoA L st).length ≤ 2) := by omega
      rcases cases3 with rfl | ⟨rfl, c3⟩ | ⟨rfl, c3⟩
      · simp at hq
        simp [stepsC_b0, g0, hr, hl, g4, g5, lenT, eqI, ltI, gtI, g3', hq, addTT, q2]
        exact fin _ a2 s2 (.rounds q) (by simp [hl]) ok2 (by simp [hl]) (by simp [g3]) (by simp [hl, whoS, g4]) (by simp [hl, stepD]) (Nat.le_of_lt q1)
      · have c4 : ¬ ((whoA L st).length : Int) < 24 := by omega
        simp at hq
        simp [stepsC_b0, g0, hr, hl, g4, g5, lenT, eqI, ltI, gtI, g3', hq, addTT, q2, c4]
        exact fin _ a2 s2 (.rounds q) (by simp [hl]) ok2 (by simp [hl]) (by simp [g3]) (by simp [hl, whoS, g4]) (by simp [hl, stepD]) (Nat.le_of_lt q1)
      · have c4 : ¬ (2 : Int) < ((whoA L st).length : Int) := by omega
        simp at hq
        simp [stepsC_b0, g0, hr, hl, g4, g5, lenT, eqI, ltI, gtI, g3', hq, addTT, q2, c4]
        exact fin _ a2 s2 (.rounds q) (by simp [hl]) ok2 (by simp [hl]) (by simp [g3]) (by simp [hl, whoS, g4]) (by simp [hl, stepD]) (Nat.le_of_lt q1)
theorem sem_steps {cx : Ctx} {ft fo : FI} {t o : Nat} (hf : cx.fs[t]? = some ft) (T : TakeOk ft) (ho : cx.fs[o]? = some fo) (O : OfG fo) {f : FI} (hio : f.io = true) (hs : ∀ ds, f.sem ds = run cx 11 true (stepsC t o) ds) : StepsF f := by
  refine ⟨hio, fun L a s m w hL ok hm hw hw2 => ?_⟩
  rw [hs]
  obtain ⟨d, fr, c, e, st, a', s', rfl, rfl, rfl, q⟩ := runIo_ex (cx := cx) (n := 11) (body := stepsC t o) (ds := [bagD a s, intsT L, .int m, .int w]) (P := fun d fr c => ∃ st a' s', d = .tuple (st.map stepD) ∧ fr = false ∧ c = bagD a' s' ∧ BagOk a' s' ∧ okA w L st ∧ st.length ≤ m) (by
    show Fx (xec cx (stepsC t o) [.ow (bagD a s), .fz (intsT L), .fz (.int m), .fz (.int w), .no, .no, .no, .no, .no, .no, .no]) _ _
    obtain ⟨k, a1, s1, hk, k1, ok1⟩ := callF_takeN hf T (ρ := [.ow (bagD a s), .fz (intsT L), .fz (.int m), .fz (.int w), .fz (intsT L), .fz (.tuple []), .no, .no, .no, .no, .no]) (i := 0) (m + 1) rfl ok (by omega) (by omega)
    simp at hk
    simp [stepsC, addI, hk, walk1, show k ≤ lim by have := limN; omega]
    simp only [Fx_seqX]
    refine Fx_for (StI L m w) ⟨rfl, a1, s1, [], ok1, rfl, rfl, rfl, rfl, trivial, rfl⟩ (fun i x ρ hx h => ?_) fun ρ h => ?_
    · obtain ⟨rfl, hi⟩ := rangeD_at hx
      refine ⟨_, rfl, steps_turn hf T ho O hL hw hw2 (by omega) ?_⟩
      obtain ⟨hl, a, s, st, ok, g0, g3, g4, g5, q⟩ := h
      exact ⟨by simpa using hl, a, s, st, ok, by simpa using g0, by simpa using g3, by simpa using g4, by simpa using g5, q⟩
    · obtain ⟨hl, a, s, st, ok, g0, g3, g4, g5, q1, q2⟩ := h
      rw [rangeD_length] at q2
      simp [g5, g0]
      exact ⟨st, rfl, a, s, rfl, ok, q1, by omega⟩)
  exact ⟨st, a', s', e, q⟩
end Iv
set_option maxRecDepth 100000
set_option maxHeartbeats 4000000
/-! P4: the lines behind steps, as the law tells them. -/
namespace Iv
open PySem PySem.Spec PyProof.Rows L2
def behindC_b0 (i_law_danced : Nat) : S := (.seq (.asg 4 (.ix (.call i_law_danced (.cons (.v 4) (.cons (.v 3) .nil))) (.k (.int 2)))) (.seq (.asg 3 (.op .Add (.v 3) (.k (.int 1)))) .nil))
def behindC_l0 : C := (.lc [8] (.v 8) (.n 8) .seq (.cons (.v 4) .nil) (.tr (.cmp .NotEq (.v 8) (.v 6))))
def behindC_b1 (i_law_danced : Nat) : S := (.seq (.ife (.tr (.cmp .Eq (.v 5) (.k (.str "rounds")))) (.seq (.for (.n 7) .r1 (.cons (.v 6) .nil) (behindC_b0 i_law_danced)) .nil) (.seq (.ife (.tr (.cmp .Eq (.v 5) (.k (.str "join")))) (.seq (.asg 4 (.op .Add (.v 4) (.tup (.cons (.v 6) .nil)))) .nil) (.seq (.asg 4 (.bi .tuple (.cons behindC_l0 .nil))) .nil)) .nil)) (.seq (.app 2 (.tup (.cons (.v 4) (.cons (.v 3) .nil)))) .nil))
def behindC (i_law_danced : Nat) : S := (.seq (.par [2, 3, 4] (.cons (.lst (.cons (.tup (.cons (.v 0) (.cons (.k (.int 0)) .nil))) .nil)) (.cons (.k (.int 0)) (.cons (.v 0) .nil)))) (.seq (.for (.t [5, 6]) .seq (.cons (.v 1) .nil) (behindC_b1 i_law_danced)) (.seq (.ret (.v 2)) .nil)))
def stD (p : List Int × Nat) : D := .tuple [intsT p.1, .int p.2]
theorem stA_snoc {s : Step} : ∀ {a : List Step} {p : List Int × Nat}, stA p (a ++ [s]) = stA p a ++ [(lnS (endA p a).1 (endA p a).2 s, nmS (endA p a).2 s)]
  | [], p => rfl
  | x :: a, p => by
    show (lnS p.1 p.2 x, nmS p.2 x) :: stA (lnS p.1 p.2 x, nmS p.2 x) (a ++ [s]) = _
    rw [stA_snoc (a := a)]
    rfl
theorem endA_ok {m : Nat} : ∀ {st : List Step} {p : List Int × Nat}, LineOk p.1 → okA m p.1 st → LineOk (endA p st).1
  | [], _, h, _ => h
  | s :: st, p, h, ok => endA_ok (st := st) (p := (lnS p.1 p.2 s, nmS p.2 s)) (lnS_ok h ok.1) (okA_perm (lnS_perm (.refl _)) ok.2)
theorem take_snoc {st : List Step} {i : Nat} {s : Step} (h : st[i]? = some s) : st.take (i + 1) = st.take i ++ [s] := by
  rw [List.take_add_one, h]
  rfl
def BehindF (f : FI) : Prop := f.io = false ∧ ∀ (L : List Int) (m : Nat) (st : List Step), LineOk L → m ≤ 1000000000000 → okA m L st → st.length ≤ 40 → f.sem [intsT L, .tuple (st.map stepD)] = .ok (.list (((L, 0) :: stA (L, 0) st).map stD)) true
def Bh0 (L : List Int) (t i : Nat) (ρ0 ρ : Env) : Prop := ρ.length = 9 ∧ get ρ 2 = get ρ0 2 ∧ get ρ 4 = .fz (intsT (lineF L t i)) ∧ get ρ 3 = .fz (.int ((t + i : Nat) : Int))
theorem behind_b0 {cx : Ctx} {fd : FI} {d : Nat} (hf : cx.fs[d]? = some fd) (Dn : DancedF fd) {L : List Int} {t i : Nat} {ρ0 ρ : Env} {T0 : D → Bool → Env → Prop} (hL : LineOk L) (h : Bh0 L t i ρ0 ρ) : Fx (xec cx (behindC_b0 d) ρ) (Bh0 L t (i + 1) ρ0) T0 := by
  obtain ⟨hl, g2, g4, g3⟩ := h
  have ok := lineF_ok hL t i
  have hc : callF cx d [.d (intsT (lineF L t i)), .d (.int ((t + i : Nat) : Int))] ρ = .ok (.d (.tuple [.list ((pairsL (lineF L t i) (t + i)).map pairD), intsL (idleL (lineF L t i) (t + i)), intsT (stepL (lineF L t i) (t + i))]), ρ) :=
    callF_ok (fr := false) (ρ2 := ρ) hf Dn.1 rfl (Dn.2 _ _ ok.nd ok.lo (by have := ok.hi; omega))
  have ix : index (.tuple [.list ((pairsL (lineF L t i) (t + i)).map pairD), intsL (idleL (lineF L t i) (t + i)), intsT (stepL (lineF L t i) (t + i))]) (.int 2) = some (.d (intsT (stepL (lineF L t i) (t + i)))) := rfl
  simp at g3 hc
  simp [behindC_b0, g4, g3, hc, ix, hl, addI]
  refine ⟨by simp [hl], by simp [g2], by simp [hl, lineF], by simp [hl]; omega⟩
def BhI (L : List Int) (st : List Step) (i : Nat) (ρ : Env) : Prop := ρ.length = 9 ∧ get ρ 2 = .ow (.list (((L, 0) :: stA (L, 0) (st.take i)).map stD)) ∧ get ρ 4 = .fz (intsT (endA (L, 0) (st.take i)).1) ∧ get ρ 3 = .fz (.int ((endA (L, 0) (st.take i)).2 : Nat))
theorem behind_b1 {cx : Ctx} {fd : FI} {d : Nat} (hf : cx.fs[d]? = some fd) (Dn : DancedF fd) {L : List Int} {st : List Step} {m i : Nat} {s : Step} {ρ ρ1 : Env} {T0 : D → Bool → Env → Prop} (hL : LineOk L) (hm : m ≤ 1000000000000) (ok : okA m L st) (hs : st[i]? = some s) (hst : st.length ≤ 40) (h : BhI L st i ρ) (hb : bindT ρ (.t [5, 6]) (stepD s) = some ρ1) :
    Fx (xec cx (behindC_b1 d) ρ1) (BhI L st (i + 1)) T0 := by
  obtain ⟨hl, g2, g4, g3⟩ := h
  have e := take_snoc hs
  have i40 : i < st.length := (List.getElem?_eq_some_iff.mp hs).1
  have okT : okA m L (st.take i ++ [s]) := by
    have := List.take_append_drop (i + 1) st
    rw [e] at this
    rw [← this] at ok
    exact (okA_append.mp ok).1
  have oki := okA_snoc.mp okT
  have hE := endA_ok (p := (L, 0)) hL oki.1
  have okp := okS_perm (endA_perm (p := (L, 0)) (st := st.take i)) oki.2
  have hlen : (((L, 0) :: stA (L, 0) (st.take i)).map stD).length < big := lt_bigS (by rw [List.length_map, List.length_cons, stA_len, List.length_take]; omega)
  have fin : ∀ ρ' : Env, ρ'.length = 9 → get ρ' 2 = .ow (.list (((L, 0) :: stA (L, 0) (st.take i)).map stD ++ [stD (lnS (endA (L, 0) (st.take i)).1 (endA (L, 0) (st.take i)).2 s, nmS (endA (L, 0) (st.take i)).2 s)])) → get ρ' 4 = .fz (intsT (lnS (endA (L, 0) (st.take i)).1 (endA (L, 0) (st.take i)).2 s)) → get ρ' 3 = .fz (.int (nmS (endA (L, 0) (st.take i)).2 s : Nat)) → BhI L st (i + 1) ρ' := by
    intro ρ' h1 h2 h3 h4
    refine ⟨h1, ?_, ?_, ?_⟩
    · rw [h2, e, stA_snoc, ← List.cons_append, List.map_append]
      rfl
    · rw [h3, e, endA_append]
      rfl
    · rw [h4, e, endA_append]
      rfl
  generalize hp : endA (L, 0) (st.take i) = p at *
  generalize hF : ((L, 0) :: stA (L, 0) (st.take i)).map stD = F at *
  have lo := hE.lo
  have hi := hE.hi
  cases s with
  | rounds k =>
    simp [stepD] at hb
    subst hb
    have hk : k ≤ lim := by
      have : k ≤ m := oki.2
      have := limN
      omega
    simp [behindC_b1, hl, eqS, sh_rounds, walk1, hk, g2, g3, g4]
    simp only [Fx_seqX]
    refine Fx_for (Bh0 p.1 p.2 · ((ρ.set 5 (.fz (.str "rounds"))).set 6 (.fz (.int k)))) ⟨by simp [hl], rfl, by simp [g4, lineF], by simp [g3]⟩ (fun j x ρ2 hx h2 => ?_) fun ρ2 h2 => ?_
    · refine ⟨_, rfl, behind_b0 hf Dn hE ?_⟩
      obtain ⟨q1, q2, q3, q4⟩ := h2
      exact ⟨by simp [q1], by simp [q2], by simp [q3], by simp [q4]⟩
    · rw [rangeD_length] at h2
      obtain ⟨q1, q2, q3, q4⟩ := h2
      simp [g2] at q2
      simp at q4
      simp [q1, q2, q3, q4, hlen]
      exact fin _ (by simp [q1]) (by simp [q1, stD, lnS, nmS]) (by simp [q3, lnS]) (by simp [q4, nmS])
  | join x =>
    simp [stepD] at hb
    subst hb
    have q1 : p.1.length + 1 ≤ big := le_bigS (by omega)
    simp [behindC_b1, hl, eqS, sh_join, sh_rounds, n_jr, g4, addT1, q1, g2, g3, hlen]
    exact fin _ (by simp [hl]) (by simp [hl, stD, lnS, nmS]) (by simp [hl, lnS]) (by simp [g3, nmS])
  | leave x =>
    simp [stepD] at hb
    subst hb
    have hlc : ∀ ρ1 : Env, ρ1.length = 9 → get ρ1 4 = .fz (intsT p.1) → get ρ1 6 = .fz (.int x) → ev cx behindC_l0 ρ1 = .ok (.f (intsL (p.1.filter fun y => !decide (y = x))), ρ1) := fun ρ1 l1 q1 q9 => by
      refine ev_lcFilt (rs := [.d (intsT p.1)]) (ds := [intsT p.1]) _ (by simp [q1]) rfl rfl (le_bigS (by omega)) (by omega) fun y hy ρ2 e2 => ?_
      subst e2
      simp [l1, q9, neI]
    simp [behindC_b1, hl, eqS, sh_leave, sh_join, sh_rounds, n_lr, n_lj, g4, hlc, g2, g3, hlen, tupleL]
    exact fin _ (by simp [hl]) (by simp [hl, stD, lnS, nmS]) (by simp [hl, lnS]) (by simp [g3, nmS])
theorem sem_behind {cx : Ctx} {fd : FI} {d : Nat} (hf : cx.fs[d]? = some fd) (Dn : DancedF fd) {f : FI} (hio : f.io = false) (hs : ∀ ds, f.sem ds = run cx 9 false (behindC d) ds) : BehindF f := by
  refine ⟨hio, fun L m st hL hm ok hst => ?_⟩
  rw [hs]
  refine run_Fx ?_
  show Fx (xec cx (behindC d) [.fz (intsT L), .fz (.tuple (st.map stepD)), .no, .no, .no, .no, .no, .no, .no]) _ _
  simp [behindC, walkT]
  simp only [Fx_seqX]
  refine Fx_for (BhI L st) ⟨rfl, rfl, rfl, rfl⟩ (fun i x ρ hx h => ?_) fun ρ h => ?_
  · rw [List.getElem?_map] at hx
    obtain ⟨s, hs, rfl⟩ := Option.map_eq_some_iff.mp hx
    obtain ⟨ρ1, hb⟩ : ∃ ρ1, bindT ρ (.t [5, 6]) (stepD s) = some ρ1 := by cases s <;> exact ⟨_, rfl⟩
    exact ⟨ρ1, hb, behind_b1 hf Dn hL hm ok hs hst h hb⟩
  · obtain ⟨hl, g2, g4, g3⟩ := h
    rw [List.length_map, List.take_length] at g2
    simp [g2]
end Iv
set_option maxRecDepth 100000
set_option maxHeartbeats 4000000
/-! P5: line_behind. -/
namespace Iv
open PySem PySem.Spec PyProof.Rows L2
def stepAfterC_l0 : C := (.lc [5] (.v 5) (.n 5) .seq (.cons (.v 0) .nil) (.tr (.cmp .NotEq (.v 5) (.v 4))))
def stepAfterC (i_is_integer i_moved : Nat) : S := (.seq (.ife (.ort (.nott (.tr (.bi .istup (.cons (.v 2) .nil)))) (.ort (.tr (.cmp .NotEq (.bi .len (.cons (.v 2) .nil)) (.k (.int 2)))) (.nott (.tr (.bi .isstr (.cons (.ix (.v 2) (.k (.int 0))) .nil)))))) (.seq (.ret (.k .none)) .nil) .nil) (.seq (.asgT [3, 4] (.v 2)) (.seq (.ife (.tr (.cmp .Eq (.v 3) (.k (.str "rounds")))) (.seq (.ret (.ife (.tr (.call i_is_integer (.cons (.v 4) (.cons (.k (.int 0)) (.cons (.k (.int 1000000000000)) .nil))))) (.tup (.cons (.call i_moved (.cons (.v 0) (.cons (.v 1) (.cons (.v 4) .nil)))) (.cons (.op .Add (.v 1) (.v 4)) .nil))) (.k .none))) .nil) .nil) (.seq (.ife (.nott (.tr (.call i_is_integer (.cons (.v 4) (.cons (.k (.int 0)) (.cons (.k (.int 99)) .nil)))))) (.seq (.ret (.k .none)) .nil) .nil) (.seq (.ife (.andt (.tr (.cmp .Eq (.v 3) (.k (.str "join")))) (.andt (.tr (.cmp .NotIn (.v 4) (.v 0))) (.tr (.cmp .Lt (.bi .len (.cons (.v 0) .nil)) (.k (.int 24)))))) (.seq (.ret (.tup (.cons (.op .Add (.v 0) (.tup (.cons (.v 4) .nil))) (.cons (.v 1) .nil)))) .nil) .nil) (.seq (.ife (.andt (.tr (.cmp .Eq (.v 3) (.k (.str "leave")))) (.andt (.tr (.cmp .In (.v 4) (.v 0))) (.tr (.cmp .Gt (.bi .len (.cons (.v 0) .nil)) (.k (.int 2)))))) (.seq (.ret (.tup (.cons (.bi .tuple (.cons stepAfterC_l0 .nil)) (.cons (.v 1) .nil)))) .nil) .nil) (.seq (.ret (.k .none)) .nil)))))))
def statesC_b0 (i_step_after : Nat) : S := (.seq (.asg 4 (.call i_step_after (.cons (.ix (.ix (.v 2) (.neg (.k (.int 1)))) (.k (.int 0))) (.cons (.ix (.ix (.v 2) (.neg (.k (.int 1)))) (.k (.int 1))) (.cons (.v 3) .nil))))) (.seq (.ife (.tr (.cmp .Is (.v 4) (.k .none))) (.seq (.rse "InvalidSteps") .nil) .nil) (.seq (.app 2 (.v 4)) .nil)))
def statesC (i_require_line i_step_after : Nat) : S := (.seq (.exp (.call i_require_line (.cons (.v 0) .nil))) (.seq (.ife (.ort (.nott (.tr (.bi .istup (.cons (.v 1) .nil)))) (.tr (.cmp .Gt (.bi .len (.cons (.v 1) .nil)) (.k (.int 40))))) (.seq (.rse "InvalidSteps") .nil) .nil) (.seq (.asg 2 (.lst (.cons (.tup (.cons (.v 0) (.cons (.k (.int 0)) .nil))) .nil))) (.seq (.for (.n 3) .seq (.cons (.v 1) .nil) (statesC_b0 i_step_after)) (.seq (.ret (.v 2)) .nil)))))
def lineBehindC (i_states : Nat) : S := (.seq (.ret (.ix (.ix (.call i_states (.cons (.v 0) (.cons (.v 1) .nil))) (.neg (.k (.int 1)))) (.k (.int 0)))) .nil)
def isIntB : D → Int → Int → Bool
  | .int i, lo, hi => decide (lo ≤ i) && decide (i ≤ hi)
  | _, _, _ => false
def noDict : D → Bool
  | .dict _ => false
  | _ => true
def IsIntG (f : FI) : Prop := f.io = false ∧ ∀ (d : D) (lo hi : Int), noDict d = true → f.sem [d, .int lo, .int hi] = .ok (.bool (isIntB d lo hi)) false
theorem isInt_g {cx : Ctx} : IsIntG (f_is_integer cx) := by
  refine ⟨rfl, fun d lo hi hd => ?_⟩
  cases d with
  | int i => exact sem_is_integer i lo hi
  | none => rfl
  | bool b => rfl
  | str s => rfl
  | list xs => rfl
  | tuple xs => rfl
  | dict _ => cases hd
theorem IsIntG.i {f : FI} (h : IsIntG f) : IsIntF f := ⟨h.1, fun i lo hi => h.2 (.int i) lo hi rfl⟩
def StepAfterF (f : FI) : Prop := f.io = false ∧ ∀ (L : List Int) (t : Nat) (s : Step), LineOk L → okS 1000000000000 L s → f.sem [intsT L, .int t, stepD s] = .ok (stD (lnS L t s, nmS t s)) false
theorem ix0 {x : D} {xs : List D} : index (.tuple (x :: xs)) (.int 0) = some (.d x) := by
  have := index_nat (d := .tuple (x :: xs)) (xs := x :: xs) (k := 0) rfl rfl
  exact this
theorem ix1 {x y : D} {xs : List D} : index (.tuple (x :: y :: xs)) (.int 1) = some (.d y) := by
  have := index_nat (d := .tuple (x :: y :: xs)) (xs := x :: y :: xs) (k := 1) rfl rfl
  exact this
theorem sem_stepAfter {cx : Ctx} {fi fm : FI} {i m : Nat} (hi : cx.fs[i]? = some fi) (Hi : IsIntF fi) (hm : cx.fs[m]? = some fm) (Hm : MovedG fm) {f : FI} (hio : f.io = false) (hs : ∀ ds, f.sem ds = run cx 6 false (stepAfterC i m) ds) : StepAfterF f := by
  refine ⟨hio, fun L t s hL ok => ?_⟩
  rw [hs]
  refine run_Fx ?_
  have lo := hL.lo
  have hi24 := hL.hi
  have hc : ∀ (x lo hi : Int) ρ, callF cx i [.d (.int x), .d (.int lo), .d (.int hi)] ρ = .ok (.d (.bool (decide (lo ≤ x) && decide (x ≤ hi))), ρ) := fun x lo hi' ρ =>
    callF_ok (fr := false) (ρ2 := ρ) hi Hi.1 rfl (Hi.2 x lo hi')
  have hmv : ∀ (k : Nat) ρ, callF cx m [.d (intsT L), .d (.int t), .d (.int k)] ρ = .ok (.d (intsT (lineF L t k)), ρ) := fun k ρ =>
    callF_ok (fr := false) (ρ2 := ρ) hm Hm.1 rfl (Hm.2 L t k (by omega) (by omega))
  cases s with
  | rounds k =>
    have hk : (k : Int) ≤ 1000000000000 := by have : k ≤ 1000000000000 := ok; omega
    show Fx (xec cx (stepAfterC i m) [.fz (intsT L), .fz (.int t), .fz (.tuple [.str "rounds", .int k]), .no, .no, .no]) _ _
    simp [stepAfterC, lenTT, neI, ix0, eqS, sh_rounds, hc, hmv, hk, addI, stD, lnS, nmS]
  | join x =>
    obtain ⟨h1, h2, h3, h4⟩ := ok
    have q1 : L.length + 1 ≤ big := le_bigS (by omega)
    have h5 : (L.length : Int) < 24 := by omega
    show Fx (xec cx (stepAfterC i m) [.fz (intsT L), .fz (.int t), .fz (.tuple [.str "join", .int x]), .no, .no, .no]) _ _
    simp [stepAfterC, lenTT, neI, ix0, eqS, sh_rounds, sh_join, n_jr, hc, h1, h2, h3, notInT, lenT, ltI, h5, addT1, q1, stD, lnS, nmS]
  | leave x =>
    obtain ⟨h1, h2⟩ := ok
    obtain ⟨r1, r2⟩ := hL.rg x h1
    have h5 : (2 : Int) < (L.length : Int) := by omega
    have hlc : ∀ ρ1 : Env, ρ1.length = 6 → get ρ1 0 = .fz (intsT L) → get ρ1 4 = .fz (.int x) → ev cx stepAfterC_l0 ρ1 = .ok (.f (intsL (L.filter fun y => !decide (y = x))), ρ1) := fun ρ1 l1 q1 q9 => by
      refine ev_lcFilt (rs := [.d (intsT L)]) (ds := [intsT L]) _ (by simp [q1]) rfl rfl (le_bigS (by omega)) (by omega) fun y hy ρ2 e2 => ?_
      subst e2
      simp [l1, q9, neI]
    show Fx (xec cx (stepAfterC i m) [.fz (intsT L), .fz (.int t), .fz (.tuple [.str "leave", .int x]), .no, .no, .no]) _ _
    simp [stepAfterC, lenTT, neI, ix0, eqS, sh_rounds, sh_join, sh_leave, n_lr, n_lj, hc, h1, r1, r2, inT, lenT, gtI, h5, hlc, tupleL, stD, lnS, nmS]
theorem stA_last {p : List Int × Nat} {st : List Step} : (p :: stA p st)[st.length]? = some (endA p st) := by
  have := stA_get (st := st) (p := p) (Nat.le_refl _)
  rwa [List.take_length] at this
theorem index_neg1 {d : D} {xs : List D} {x : D} (h : seqOf d = some xs) (hx : xs[xs.length - 1]? = some x) : index d (.int (-1)) = some (.d x) := by
  have hk := (List.getElem?_eq_some_iff.mp hx).1
  have e : L2.atI xs (-1) = some x := by
    unfold L2.atI ixN
    rw [if_neg (by decide), if_pos (by omega)]
    show xs[((xs.length : Int) + -1).toNat]? = _
    rw [show ((xs.length : Int) + -1).toNat = xs.length - 1 by omega]
    exact hx
  unfold seqOf at h
  split at h <;> cases h <;> (show (L2.atI xs (-1)).map Rv.d = _; rw [e]; rfl)
theorem ix_last {p : List Int × Nat} {st : List Step} : index (.list ((p :: stA p st).map stD)) (.int (-1)) = some (.d (stD (endA p st))) := by
  refine index_neg1 rfl ?_
  rw [List.getElem?_map, List.length_map, List.length_cons, stA_len, Nat.add_sub_cancel, stA_last]
  rfl
def StatesF (f : FI) : Prop := f.io = false ∧ ∀ (L : List Int) (st : List Step), LineOk L → okA 1000000000000 L st → st.length ≤ 40 → f.sem [intsT L, .tuple (st.map stepD)] = .ok (.list (((L, 0) :: stA (L, 0) st).map stD)) true
def SsI (L : List Int) (st : List Step) (i : Nat) (ρ : Env) : Prop := ρ.length = 5 ∧ get ρ 2 = .ow (.list (((L, 0) :: stA (L, 0) (st.take i)).map stD))
theorem isN_stD {p : List Int × Nat} : cmpop .Is (stD p) .none = some false := rfl
theorem sem_states {cx : Ctx} {fr fs : FI} {r s0 : Nat} (hr : cx.fs[r]? = some fr) (Hr : ReqF fr) (hs0 : cx.fs[s0]? = some fs) (Hs0 : StepAfterF fs) {f : FI} (hio : f.io = false) (hs : ∀ ds, f.sem ds = run cx 5 false (statesC r s0) ds) : StatesF f := by
  refine ⟨hio, fun L st hL ok hst => ?_⟩
  rw [hs]
  refine run_Fx ?_
  have hc : ∀ ρ, callF cx r [.d (intsT L)] ρ = .ok (.d .none, ρ) := fun ρ => callF_ok (fr := false) (ρ2 := ρ) hr Hr.1 rfl (Hr.2 L hL)
  have h5 : ¬ (40 : Int) < (st.length : Int) := by omega
  show Fx (xec cx (statesC r s0) [.fz (intsT L), .fz (.tuple (st.map stepD)), .no, .no, .no]) _ _
  simp [statesC, hc, lenTT, gtI, h5, walkT]
  simp only [Fx_seqX]
  refine Fx_for (SsI L st) ⟨rfl, rfl⟩ (fun i x ρ hx h => ?_) fun ρ h => ?_
  · rw [List.getElem?_map] at hx
    obtain ⟨s, hs, rfl⟩ := Option.map_eq_some_iff.mp hx
    obtain ⟨hl, g2⟩ := h
    refine ⟨_, rfl, ?_⟩
    have e := take_snoc hs
    have i40 : i < st.length := (List.getElem?_eq_some_iff.mp hs).1
    have okT : okA 1000000000000 L (st.take i ++ [s]) := by
      have := List.take_append_drop (i + 1) st
      rw [e] at this
      rw [← this] at ok
      exact (okA_append.mp ok).1
    have oki := okA_snoc.mp okT
    have hE := endA_ok (p := (L, 0)) hL oki.1
    have okp := okS_perm (endA_perm (p := (L, 0)) (st := st.take i)) oki.2
    have hlen : (((L, 0) :: stA (L, 0) (st.take i)).map stD).length < big := lt_bigS (by rw [List.length_map, List.length_cons, stA_len, List.length_take]; omega)
    have il := ix_last (p := (L, 0)) (st := st.take i)
    have fin : ∀ ρ' : Env, ρ'.length = 5 → get ρ' 2 = .ow (.list (((L, 0) :: stA (L, 0) (st.take i)).map stD ++ [stD (lnS (endA (L, 0) (st.take i)).1 (endA (L, 0) (st.take i)).2 s, nmS (endA (L, 0) (st.take i)).2 s)])) → SsI L st (i + 1) ρ' := by
      intro ρ' h1 h2
      refine ⟨h1, ?_⟩
      rw [h2, e, stA_snoc, ← List.cons_append, List.map_append]
      rfl
    generalize hp : endA (L, 0) (st.take i) = p at *
    generalize hF : ((L, 0) :: stA (L, 0) (st.take i)).map stD = F at *
    have i0 : index (stD p) (.int 0) = some (.d (intsT p.1)) := ix0
    have i1 : index (stD p) (.int 1) = some (.d (.int p.2)) := ix1
    have hsa : ∀ ρ, callF cx s0 [.d (intsT p.1), .d (.int p.2), .d (stepD s)] ρ = .ok (.d (stD (lnS p.1 p.2 s, nmS p.2 s)), ρ) := fun ρ => callF_ok (fr := false) (ρ2 := ρ) hs0 Hs0.1 rfl (Hs0.2 p.1 p.2 s hE okp)
    simp [statesC_b0, g2, il, i0, i1, hl, hsa, isN_stD, hlen]
    exact fin _ (by simp [hl]) (by simp [hl])
  · obtain ⟨hl, g2⟩ := h
    rw [List.length_map, List.take_length] at g2
    simp [g2]
def LineBehindF (f : FI) : Prop := f.io = false ∧ ∀ (L : List Int) (st : List Step), LineOk L → okA 1000000000000 L st → st.length ≤ 40 → f.sem [intsT L, .tuple (st.map stepD)] = .ok (intsT (endA (L, 0) st).1) false
theorem sem_lineBehind {cx : Ctx} {fs : FI} {s0 : Nat} (hs0 : cx.fs[s0]? = some fs) (Hs0 : StatesF fs) {f : FI} (hio : f.io = false) (hs : ∀ ds, f.sem ds = run cx 2 false (lineBehindC s0) ds) : LineBehindF f := by
  refine ⟨hio, fun L st hL ok hst => ?_⟩
  rw [hs]
  refine run_Fx ?_
  have hsa : ∀ ρ, callF cx s0 [.d (intsT L), .d (.tuple (st.map stepD))] ρ = .ok (.f (.list (((L, 0) :: stA (L, 0) st).map stD)), ρ) := fun ρ => callF_ok (fr := true) (ρ2 := ρ) hs0 Hs0.1 rfl (Hs0.2 L st hL ok hst)
  have il := ix_last (p := (L, 0)) (st := st)
  have i0 : index (stD (endA (L, 0) st)) (.int 0) = some (.d (intsT (endA (L, 0) st).1)) := ix0
  generalize hF : ((L, 0) :: stA (L, 0) st).map stD = F at *
  show Fx (xec cx (lineBehindC s0) [.fz (intsT L), .fz (.tuple (st.map stepD))]) _ _
  simp [lineBehindC, hsa, il, i0]
end Iv
set_option maxRecDepth 100000
set_option maxHeartbeats 4000000
/-! E4: what the laws' openings share; slices, products. -/
namespace Iv
open PySem PySem.Spec PyProof.Rows L2
theorem Fx_gen {cx : Ctx} {s : S} {ρ : Env} {N : Env → Prop} {T : D → Bool → Env → Prop} (P : Env → Prop) (h : P ρ) (k : ∀ ρ', P ρ' → Fx (xec cx s ρ') N T) : Fx (xec cx s ρ) N T := k ρ h
theorem scrLen (ns : List Int) : fLen (scrD ns) = some (.d (.int ns.length)) := by
  show some (Rv.d (.int ((ns.map PyData.int).length : Nat))) = _
  rw [List.length_map]
/-- the numbers of the turns -/
theorem outer (ns : List Int) (c : Nat) (hc : c ≤ 8) : ∃ n : Nat, n ≤ 100 ∧ walked .r1 [.int ((if (c : Int) < ns.length then (c : Int) else ns.length) + 2)] = some (rangeD 0 n) := by
  by_cases h : (c : Int) < ns.length
  · refine ⟨c + 2, by omega, ?_⟩
    rw [if_pos h]
    exact walk1 (n := c + 2) (by have := limN; omega)
  · refine ⟨ns.length + 2, by omega, ?_⟩
    rw [if_neg h]
    exact walk1 (n := ns.length + 2) (by have := limN; omega)
theorem callF_bag {cx : Ctx} {t : Nat} {fb : FI} (hf : cx.fs[t]? = some fb) (B : BagF fb) (ns : List Int) {k : Nat} (hk : k ≤ 100) : ∃ a s, (∀ ρ, callF cx t [.d (scrD ns), .d (.int k)] ρ = .ok (.f (bagD a s), ρ)) ∧ BagOk a s := by
  obtain ⟨a, s, h, ok⟩ := B.2 ns k hk
  exact ⟨a, s, fun ρ => callF_ok (fr := true) (ρ2 := ρ) hf B.1 rfl h, ok⟩
theorem callF_line {cx : Ctx} {t : Nat} {fl : FI} (hf : cx.fs[t]? = some fl) (Ln : LineOkF fl) {ρ : Env} {i : Nat} {a s m : Int} (g : get ρ i = .ow (bagD a s)) (ok : BagOk a s) (h0 : 3 ≤ m) (h1 : m ≤ 24) :
    ∃ L a' s', callF cx t [.o i, .d (.int m)] ρ = .ok (.d (intsT L), ρ.set i (.ow (bagD a' s'))) ∧ BagOk a' s' ∧ LineOk L ∧ (L.length : Int) ≤ m := by
  obtain ⟨L, a', s', h, q⟩ := Ln.2 a s m ok h0 h1
  exact ⟨L, a', s', callF_io (fr := false) hf Ln.1 rfl g h, q⟩
/-- one of two numbers in a list -/
theorem ix2L (x y : Int) {r : Nat} (h : r < 2) : ∃ m, (m = x ∨ m = y) ∧ index (.list [.int x, .int y]) (.int r) = some (.d (.int m)) := by
  have : r = 0 ∨ r = 1 := by omega
  rcases this with rfl | rfl
  · exact ⟨x, .inl rfl, index_nat (xs := [.int x, .int y]) (k := 0) rfl rfl⟩
  · exact ⟨y, .inr rfl, index_nat (xs := [.int x, .int y]) (k := 1) rfl rfl⟩
theorem eqvAll_ints : ∀ a b : List Int, PyData.eqvAll (a.map .int) (b.map .int) = decide (a = b)
  | [], [] => rfl
  | [], _ :: _ => rfl
  | _ :: _, [] => rfl
  | x :: a, y :: b => by
    have e : PyData.eqvAll ((x :: a).map .int) ((y :: b).map .int) = (decide (x = y) && PyData.eqvAll (a.map .int) (b.map .int)) := rfl
    rw [e, eqvAll_ints a b]
    by_cases h : x = y <;> by_cases h2 : a = b <;> simp [h, h2]
theorem eqT (a b : List Int) : cmpop .Eq (intsT a) (intsT b) = some (decide (a = b)) := by
  show (if SeqAt.shaped (intsT a) = true ∧ SeqAt.shaped (intsT b) = true then some (PyData.eqvAll (a.map .int) (b.map .int)) else none) = _
  rw [if_pos ⟨shaped_intsT a, shaped_intsT b⟩, eqvAll_ints]
theorem neT (a b : List Int) : cmpop .NotEq (intsT a) (intsT b) = some (!decide (a = b)) := by
  show (if SeqAt.shaped (intsT a) = true ∧ SeqAt.shaped (intsT b) = true then some (!PyData.eqvAll (a.map .int) (b.map .int)) else none) = _
  rw [if_pos ⟨shaped_intsT a, shaped_intsT b⟩, eqvAll_ints]
theorem eqL (a b : List Int) : cmpop .Eq (intsL a) (intsL b) = some (decide (a = b)) := by
  show (if SeqAt.shaped (intsL a) = true ∧ SeqAt.shaped (intsL b) = true then some (PyData.eqvAll (a.map .int) (b.map .int)) else none) = _
  rw [if_pos ⟨shaped_ints a, shaped_ints b⟩, eqvAll_ints]
theorem neL (a b : List Int) : cmpop .NotEq (intsL a) (intsL b) = some (!decide (a = b)) := by
  show (if SeqAt.shaped (intsL a) = true ∧ SeqAt.shaped (intsL b) = true then some (!PyData.eqvAll (a.map .int) (b.map .int)) else none) = _
  rw [if_pos ⟨shaped_ints a, shaped_ints b⟩, eqvAll_ints]
theorem cut_take (xs : List D) (j : Nat) : cutD xs none (some (j : Int)) = xs.take j := by
  unfold cutD
  rw [HT.sIx_nat]
  show (xs.drop 0).take (min j xs.length - 0) = _
  rw [List.drop_zero, Nat.sub_zero]
  by_cases h : j ≤ xs.length
  · rw [Nat.min_eq_left h]
  · rw [Nat.min_eq_right (by omega), List.take_of_length_le (Nat.le_refl _), List.take_of_length_le (by omega)]
theorem cut_drop (xs : List D) (j : Nat) : cutD xs (some (j : Int)) none = xs.drop j := by
  unfold cutD
  rw [HT.sIx_nat]
  show (xs.drop (min j xs.length)).take (xs.length - min j xs.length) = _
  by_cases h : j ≤ xs.length
  · rw [Nat.min_eq_left h, List.take_of_length_le (by rw [List.length_drop]; omega)]
  · rw [Nat.min_eq_right (by omega), Nat.sub_self, List.take_zero, List.drop_eq_nil_of_le (by omega)]
theorem cut_mid (xs : List D) (i j : Nat) (h : i ≤ j) : cutD xs (some (i : Int)) (some (j : Int)) = (xs.take j).drop i := by
  unfold cutD
  rw [HT.sIx_nat, HT.sIx_nat, List.drop_take]
  by_cases h1 : i ≤ xs.length
  · rw [Nat.min_eq_left h1]
    by_cases h2 : j ≤ xs.length
    · rw [Nat.min_eq_left h2]
    · rw [Nat.min_eq_right (by omega), List.take_of_length_le (by rw [List.length_drop]; omega), List.take_of_length_le (by rw [List.length_drop]; omega)]
  · rw [List.drop_eq_nil_of_le (by omega), List.drop_eq_nil_of_le (by omega), List.take_nil, List.take_nil]
theorem slT (xs : List D) (a b : D) {i j : Option Int} (ha : part a = some i) (hb : part b = some j) : slice (.tuple xs) a b = some (.d (.tuple (cutD xs i j))) := by
  show (part a).bind (fun i => (part b).bind fun j => some (Rv.d (.tuple (cutD xs i j)))) = _
  rw [ha, hb]
  rfl
theorem slT_to (xs : List D) (j : Nat) : slice (.tuple xs) .none (.int j) = some (.d (.tuple (xs.take j))) := by rw [slT xs .none (.int j) rfl rfl, cut_take]
theorem slT_from (xs : List D) (j : Nat) : slice (.tuple xs) (.int j) .none = some (.d (.tuple (xs.drop j))) := by rw [slT xs (.int j) .none rfl rfl, cut_drop]
theorem slT_mid (xs : List D) (i j : Nat) (h : i ≤ j) : slice (.tuple xs) (.int i) (.int j) = some (.d (.tuple ((xs.take j).drop i))) := by rw [slT xs (.int i) (.int j) rfl rfl, cut_mid xs i j h]
/-- numbers that may be multiplied -/
def Sm (i : Int) : Prop := i.natAbs ≤ lim
theorem Sm.lt {i : Int} (h : Sm i) : i.natAbs < 2 ^ 1000 := Nat.lt_of_le_of_lt h (by decide +kernel)
theorem mulS {a b : Int} (ha : Sm a) (hb : Sm b) : binop .Mult (.int a) (.int b) = some (.d (.int (a * b))) := b_mul ha.lt hb.lt
theorem sm_nat {n : Nat} (h : n ≤ lim) : Sm (n : Int) := by show (n : Int).natAbs ≤ lim; rw [Int.natAbs_natCast]; exact h
theorem modP {a b : Int} (h : 0 < b) : binop .Mod (.int a) (.int b) = some (.d (.int (a % b))) := b_mod h
theorem pow109 : binop .Pow (.int 10) (.int 9) = some (.d (.int 1000000000)) := b_pow ⟨by decide, by decide, by decide⟩
theorem pow1012 : binop .Pow (.int 10) (.int 12) = some (.d (.int 1000000000000)) := b_pow ⟨by decide, by decide, by decide⟩
theorem pow1010 : binop .Pow (.int 10) (.int 10) = some (.d (.int 10000000000)) := b_pow ⟨by decide, by decide, by decide⟩
end Iv
set_option maxRecDepth 100000
set_option maxHeartbeats 4000000
/-! E5: methods, items set, dicts, for simp. -/
namespace Iv
open PySem PySem.Spec PyProof.Rows L2
/-! ### built-ins -/
@[simp] theorem bi_lrange {d : D} : builtin .lrange [d] = fLrange d := nr rfl
@[simp] theorem bi_lenset {d : D} : builtin .lenset [d] = fLenset d := nr rfl
@[simp] theorem bi_max1 {d : D} : builtin .max1 [d] = fMax1 d := nr rfl
@[simp] theorem bi_min1 {d : D} : builtin .min1 [d] = fMin1 d := nr rfl
@[simp] theorem bi_bool {d : D} : builtin .bool [d] = fBool d := nr rfl
@[simp] theorem bi_dict {d : D} : builtin .dict [d] = fDict d := nr rfl
@[simp] theorem bi_lvals {d : D} : builtin .lvals [d] = fLvals d := nr rfl
@[simp] theorem bi_svals {d : D} : builtin .svals [d] = fSvals d := nr rfl
theorem lrangeN {n : Nat} (h : n ≤ big) : fLrange (.int n) = some (.f (intsL ((List.range n).map fun (k : Nat) => (k : Int)))) := by
  show (if 0 ≤ (n : Int) ∧ (n : Int) ≤ big then some (Rv.f (.list ((List.range (n : Int).toNat).map fun (i : Nat) => .int (i : Int)))) else none) = _
  rw [if_pos ⟨by omega, by omega⟩, Int.toNat_natCast]
  unfold intsL
  rw [List.map_map]
  rfl
/-! ### methods -/
def meKd (b : Bool) (m : Me) (d : D) (ds : List D) (ρ : Env) : RE := match b with | true => kOp5 (method m d ds) ρ | false => .no
@[simp] theorem meKd_t {m : Me} {d : D} {ds : List D} {ρ : Env} : meKd true m d ds ρ = kOp5 (method m d ds) ρ := nr rfl
def kMe5 (o : Option D) (d0 : D) (m : Me) (ds : List D) (ρ : Env) : RE := got o fun d => meKd (kind d == kind d0) m d ds ρ
@[simp] theorem kMe5_some {d d0 : D} {m : Me} {ds : List D} {ρ : Env} : kMe5 (some d) d0 m ds ρ = meKd (kind d == kind d0) m d ds ρ := nr rfl
def kMe4 (o : Option (List D × Env)) (x d0 : D) (xr : Rv) (m : Me) : RE := got o fun p => kMe5 (read p.2 xr) d0 m p.1 p.2
@[simp] theorem kMe4_some {ds : List D} {ρ : Env} {x d0 : D} {xr : Rv} {m : Me} : kMe4 (some (ds, ρ)) x d0 xr m = kMe5 (read ρ xr) d0 m ds ρ := nr rfl
def kMe3 (o : Option (List Rv)) (d0 : D) (xr : Rv) (m : Me) (ρ : Env) : RE := got o fun rs => kMe4 (escs ρ rs) d0 d0 xr m
@[simp] theorem kMe3_some {rs : List Rv} {d0 : D} {xr : Rv} {m : Me} {ρ : Env} : kMe3 (some rs) d0 xr m ρ = kMe4 (escs ρ rs) d0 d0 xr m := nr rfl
def kMe2 (r : RE) (d0 : D) (xr : Rv) (m : Me) : RE := r.bd fun y ρ2 => kMe3 (listOf y) d0 xr m ρ2
@[simp] theorem kMe2_ok {y : Rv} {ρ : Env} {d0 : D} {xr : Rv} {m : Me} : kMe2 (.ok (y, ρ)) d0 xr m = kMe3 (listOf y) d0 xr m ρ := nr rfl
@[simp] theorem kMe2_er {x : Str} {d0 : D} {xr : Rv} {m : Me} : kMe2 (.er x) d0 xr m = .er x := nr rfl
def meOkB (b : Bool) (cx : Ctx) (es : C) (d0 : D) (xr : Rv) (m : Me) (ρ : Env) : RE := match b with | true => kMe2 (ev cx es ρ) d0 xr m | false => .no
@[simp] theorem meOkB_t {cx : Ctx} {es : C} {d0 : D} {xr : Rv} {m : Me} {ρ : Env} : meOkB true cx es d0 xr m ρ = kMe2 (ev cx es ρ) d0 xr m := nr rfl
def kMe1 (o : Option D) (cx : Ctx) (es : C) (xr : Rv) (m : Me) (ρ : Env) : RE := got o fun d0 => meOkB (meOk m d0) cx es d0 xr m ρ
@[simp] theorem kMe1_some {d0 : D} {cx : Ctx} {es : C} {xr : Rv} {m : Me} {ρ : Env} : kMe1 (some d0) cx es xr m ρ = meOkB (meOk m d0) cx es d0 xr m ρ := nr rfl
def kMe (r : RE) (cx : Ctx) (es : C) (m : Me) : RE := r.bd fun x ρ1 => kMe1 (read ρ1 x) cx es x m ρ1
@[simp] theorem kMe_ok {x : Rv} {ρ : Env} {cx : Ctx} {es : C} {m : Me} : kMe (.ok (x, ρ)) cx es m = kMe1 (read ρ x) cx es x m ρ := nr rfl
@[simp] theorem kMe_er {x : Str} {cx : Ctx} {es : C} {m : Me} : kMe (.er x) cx es m = .er x := nr rfl
theorem if_b {α : Sort _} {p : Prop} [Decidable p] {a b : α} {f : Bool → α} (ht : f true = a) (hf : f false = b) : (if p then a else b) = f (decide p) := by
  by_cases h : p
  · rw [if_pos h, decide_eq_true h, ht]
  · rw [if_neg h, decide_eq_false h, hf]
@[simp] theorem e_me {cx : Ctx} {m : Me} {a es : C} {ρ : Env} : ev cx (.me m a es) ρ = kMe (ev cx a ρ) cx es m := by
  rw [ev]
  unfold kMe kMe1
  congr
  funext x ρ1
  congr
  funext d0
  cases h : meOk m d0
  · rfl
  · rw [if_pos rfl, meOkB_t]
    unfold kMe2 kMe3 kMe4 kMe5
    congr
    funext y ρ2
    congr
    funext rs
    congr
    funext p
    congr
    funext d
    by_cases hk : kind d = kind d0
    · rw [if_pos hk, hk, beq_self_eq_true]
      rfl
    · rw [if_neg hk, beq_eq_false_iff_ne.mpr hk]
      rfl
@[simp] theorem ki_T {L : List Int} : kind (intsT L) = 2 := nr rfl
@[simp] theorem ki_L {L : List Int} : kind (intsL L) = 1 := nr rfl
@[simp] theorem ki_TT {L : List D} : kind (.tuple L) = 2 := nr rfl
@[simp] theorem ki_LL {L : List D} : kind (.list L) = 1 := nr rfl
@[simp] theorem ki_D {L : List (D × D)} : kind (.dict L) = 3 := nr rfl
@[simp] theorem mo_T {L : List Int} : meOk .index (intsT L) = true := nr rfl
@[simp] theorem mo_L {L : List Int} : meOk .index (intsL L) = true := nr rfl
@[simp] theorem mo_g1 {L : List (D × D)} : meOk .get1 (.dict L) = dkeys L := nr rfl
@[simp] theorem mo_g2 {L : List (D × D)} : meOk .get2 (.dict L) = dkeys L := nr rfl
theorem me_ixT {L : List Int} {x : Int} (h : x ∈ L) : method .index (intsT L) [.int x] = some (.d (.int (L.idxOf x : Nat))) := by
  simp only [method, intsT, seqOf, Option.bind_some, intsD_map, if_pos h]
theorem me_ixL {L : List Int} {x : Int} (h : x ∈ L) : method .index (intsL L) [.int x] = some (.d (.int (L.idxOf x : Nat))) := by
  simp only [method, intsL, seqOf, Option.bind_some, intsD_map, if_pos h]

/-! ### items set -/
def sSet5 (o : Option D) (a : Nat) (ρ : Env) : F := lifo o fun d' => .nx (ρ.set a (.ow d'))
@[simp] theorem sSet5_some {d : D} {a : Nat} {ρ : Env} : sSet5 (some d) a ρ = .nx (ρ.set a (.ow d)) := nr rfl
def sSet4 (o : Option D) (i v : D) (a : Nat) (ρ : Env) : F := lifo o fun d => sSet5 (setItem d i v) a ρ
@[simp] theorem sSet4_some {d i v : D} {a : Nat} {ρ : Env} : sSet4 (some d) i v a ρ = sSet5 (setItem d i v) a ρ := nr rfl
def sSet3 (o : Option D) (v : D) (a : Nat) (ρ : Env) : F := lifo o fun i => sSet4 (owOf (get ρ a)) i v a ρ
@[simp] theorem sSet3_some {i v : D} {a : Nat} {ρ : Env} : sSet3 (some i) v a ρ = sSet4 (owOf (get ρ a)) i v a ρ := nr rfl
def sSet2 (r : RE) (v : D) (a : Nat) : F := lift r fun y ρ1 => sSet3 (read ρ1 y) v a ρ1
@[simp] theorem sSet2_ok {y : Rv} {ρ : Env} {v : D} {a : Nat} : sSet2 (.ok (y, ρ)) v a = sSet3 (read ρ y) v a ρ := nr rfl
def sSet1 (o : Option D) (r : RE) (v : D) (a : Nat) : F := lifo o fun _ => sSet2 r v a
@[simp] theorem sSet1_some {d : D} {r : RE} {v : D} {a : Nat} : sSet1 (some d) r v a = sSet2 r v a := nr rfl
def sSet0 (o : Option (D × Env)) (cx : Ctx) (i : C) (a : Nat) : F := lifo o fun p => sSet1 (owOf (get p.2 a)) (ev cx i p.2) p.1 a
@[simp] theorem sSet0_some {d : D} {ρ : Env} {cx : Ctx} {i : C} {a : Nat} : sSet0 (some (d, ρ)) cx i a = sSet1 (owOf (get ρ a)) (ev cx i ρ) d a := nr rfl
def sSet (r : RE) (cx : Ctx) (i : C) (a : Nat) : F := lift r fun x ρ1 => sSet0 (esc ρ1 x) cx i a
@[simp] theorem sSet_ok {x : Rv} {ρ : Env} {cx : Ctx} {i : C} {a : Nat} : sSet (.ok (x, ρ)) cx i a = sSet0 (esc ρ x) cx i a := nr rfl
@[simp] theorem sSet_er {x : Str} {cx : Ctx} {i : C} {a : Nat} : sSet (.er x) cx i a = .er x := nr rfl
@[simp] theorem x_set {cx : Ctx} {a : Nat} {i e : C} {ρ : Env} : xec cx (.set a i e) ρ = sSet (ev cx e ρ) cx i a := nr rfl
theorem setD {kvs : List (D × D)} {k v : D} (hk : keyOk kvs k = true) (hl : kvs.length < big) : setItem (.dict kvs) k v = some (.dict (dput kvs k v)) := by
  unfold setItem
  exact if_pos ⟨hk, hl⟩
theorem setL {xs : List D} {k : Nat} {v : D} (h : k < xs.length) : setItem (.list xs) (.int k) v = some (.list (xs.set k v)) := by
  unfold setItem
  exact (if_pos ⟨by omega, by omega⟩).trans rfl

/-! ### dicts -/
@[simp] theorem e_dic0 {cx : Ctx} {ρ : Env} : ev cx (.dic .nil .nil) ρ = .ok (.f (.dict []), ρ) := nr rfl
theorem eqv_int (a b : Int) : PyData.eqv (.int a) (.int b) = decide (a = b) := by
  have := eqv_kD (.inl a) (.inl b)
  rw [show kD (.inl a) = .int a from rfl, show kD (.inl b) = .int b from rfl] at this
  rw [this]
  simp
theorem dval_app {kvs : List (D × D)} {k v q : D} : dval (kvs ++ [(k, v)]) q = match dval kvs q with | some d => some d | none => if PyData.eqv k q = true then some v else none := by
  induction kvs with
  | nil => rw [List.nil_append, dval_cons, dval_nil]
  | cons p r ih =>
    rw [List.cons_append, dval_cons, dval_cons, ih]
    split <;> rfl
theorem dval_none {kvs : List (D × D)} {q : D} : dval kvs q = none ↔ (kvs.any fun kv => PyData.eqv kv.1 q) = false := by
  induction kvs with
  | nil => simp [dval_nil]
  | cons p r ih =>
    rw [dval_cons, List.any_cons]
    cases h : PyData.eqv p.1 q <;> simp [ih]
/-- index of a dict -/
theorem ixD {kvs : List (D × D)} {k d : D} (h0 : dkeys kvs = true) (hk : keyOk kvs k = true) (h : dval kvs k = some d) : index (.dict kvs) k = some (.d d) := by
  unfold index
  split
  · rename_i e
    cases e
  · rename_i e
    cases e
  · rename_i e
    cases e
    simp [dkeys, key0, key1] at h0
  · rename_i e hne
    cases e
    rw [if_pos hk, h]
    rfl
  · exfalso
    rename_i e1 e2 e3 e4
    first | exact e1 _ rfl | exact e2 _ rfl | exact e3 _ rfl | exact e4 _ rfl
/-- keys that are numbers -/
def dI (f : Int → Int) (g : Int → D) : List Int → List (D × D) → List (D × D)
  | [], acc => acc
  | x :: xs, acc => dI f g xs (dput acc (.int (f x)) (g x))
def intKeys (kvs : List (D × D)) : Prop := ∀ p ∈ kvs, ∃ i, p.1 = .int i
theorem intKeys_put {kvs : List (D × D)} {i : Int} {v : D} (h : intKeys kvs) : intKeys (dput kvs (.int i) v) := by
  unfold dput
  split
  · intro p hp
    obtain ⟨q, hq, rfl⟩ := List.mem_map.mp hp
    obtain ⟨j, hj⟩ := h q hq
    refine ⟨j, ?_⟩
    split
    · exact hj
    · exact hj
  · intro p hp
    rcases List.mem_append.mp hp with hp | hp
    · exact h p hp
    · rw [List.mem_singleton] at hp
      subst hp
      exact ⟨i, rfl⟩
theorem intKeys_key0 {kvs : List (D × D)} (h : intKeys kvs) : (kvs.all fun p => key0 p.1) = true := by
  rw [List.all_eq_true]
  intro p hp
  obtain ⟨i, e⟩ := h p hp
  rw [e]
  rfl
theorem intKeys_dkeys {kvs : List (D × D)} (h : intKeys kvs) : dkeys kvs = true := by
  unfold dkeys
  rw [intKeys_key0 h]
  rfl
theorem intKeys_ok {kvs : List (D × D)} (h : intKeys kvs) (i : Int) : keyOk kvs (.int i) = true := by
  unfold keyOk
  rw [intKeys_key0 h]
  rfl
theorem dval_put {kvs : List (D × D)} (h : intKeys kvs) {i j : Int} {v : D} : dval (dput kvs (.int i) v) (.int j) = if i = j then some v else dval kvs (.int j) := by
  unfold dput
  by_cases ha : (kvs.any fun kv => PyData.eqv kv.1 (.int i)) = true
  · rw [if_pos ha]
    induction kvs with
    | nil => simp at ha
    | cons p r ih =>
      obtain ⟨a, ea⟩ := h p List.mem_cons_self
      have hr : intKeys r := fun q hq => h q (List.mem_cons_of_mem _ hq)
      rw [List.map_cons, dval_cons, dval_cons, ea, eqv_int, eqv_int]
      rw [List.any_cons, ea, eqv_int] at ha
      by_cases h1 : a = i
      · subst h1
        rw [if_pos (decide_eq_true rfl)]
        show (if PyData.eqv (.int a) (.int j) = true then some v else _) = _
        rw [eqv_int]
        by_cases h2 : a = j
        · rw [if_pos (decide_eq_true h2), if_pos h2]
        · rw [if_neg (by simpa using h2), if_neg h2, if_neg (by simpa using h2)]
          by_cases hx : (r.any fun kv => PyData.eqv kv.1 (.int a)) = true
          · rw [ih hr hx, if_neg h2]
          · have e : (r.map fun kv => if PyData.eqv kv.1 (.int a) = true then (kv.1, v) else kv) = r := by
              conv => rhs; rw [← List.map_id r]
              apply List.map_congr_left
              intro q hq
              rw [if_neg]
              · rfl
              · intro z
                exact hx (List.any_eq_true.mpr ⟨q, hq, z⟩)
            rw [e]
      · rw [decide_eq_false h1] at ha ⊢
        rw [if_neg Bool.false_ne_true]
        show (if PyData.eqv p.1 (.int j) = true then some p.2 else _) = _
        rw [ea, eqv_int]
        rw [Bool.false_or] at ha
        rw [ih hr ha]
        by_cases h2 : a = j
        · subst h2
          have : ¬ i = a := fun e => h1 e.symm
          simp [this]
        · simp [h2]
  · rw [if_neg ha, dval_app]
    have hn : (kvs.any fun kv => PyData.eqv kv.1 (.int i)) = false := by simpa using ha
    rw [eqv_int]
    by_cases h1 : i = j
    · subst h1
      rw [dval_none.mpr hn]
      simp
    · cases dval kvs (.int j) <;> simp [h1]
theorem dI_keys {f : Int → Int} {g : Int → D} : ∀ {xs : List Int} {acc : List (D × D)}, intKeys acc → intKeys (dI f g xs acc)
  | [], _, h => h
  | x :: _, acc, h => dI_keys (acc := dput acc (.int (f x)) (g x)) (intKeys_put h)
theorem dI_out {f : Int → Int} {g : Int → D} {j : Int} : ∀ {xs : List Int} {acc : List (D × D)}, intKeys acc → (∀ x ∈ xs, f x ≠ j) → dval (dI f g xs acc) (.int j) = dval acc (.int j)
  | [], _, _, _ => rfl
  | x :: xs, acc, h, hn => by
    show dval (dI f g xs _) _ = _
    rw [dI_out (acc := dput acc (.int (f x)) (g x)) (intKeys_put h) fun y hy => hn y (List.mem_cons_of_mem _ hy), dval_put h, if_neg (hn x List.mem_cons_self)]
/-- the value at j, if all that have the key j have the one value -/
theorem dI_val {f : Int → Int} {g : Int → D} {j : Int} {d : D} : ∀ {xs : List Int} {acc : List (D × D)}, intKeys acc → (∀ x ∈ xs, f x = j → g x = d) → ((∃ x ∈ xs, f x = j) ∨ dval acc (.int j) = some d) → dval (dI f g xs acc) (.int j) = some d
  | [], _, _, _, h => h.resolve_left fun ⟨x, hx, _⟩ => nomatch hx
  | x :: xs, acc, ha, h1, h2 => by
    show dval (dI f g xs _) _ = _
    refine dI_val (intKeys_put ha) (fun y hy => h1 y (List.mem_cons_of_mem _ hy)) ?_
    rw [dval_put ha]
    by_cases e : f x = j
    · rw [if_pos e, h1 x List.mem_cons_self e]
      exact .inr rfl
    · rw [if_neg e]
      rcases h2 with ⟨y, hy, q⟩ | h2
      · rcases List.mem_cons.mp hy with rfl | hy
        · exact absurd q e
        · exact .inl ⟨y, hy, q⟩
      · exact .inr h2

/-! ### dict comprehensions that leave the slots alone -/
theorem dcGo_pure {key val : Env → R (Rv × Env)} {tg : Tg} {own : List Nat} {ρw : Env} (f : Int → Int) (g : Int → D) (ht : ∀ i ∈ tgs tg, i ∈ own) (hw : wipeE ρw own = ρw) : ∀ {items : List Int} {acc : List (D × D)},
    (∀ x ∈ items, ∃ ρ1, bindT ρw tg (.int x) = some ρ1 ∧ key ρ1 = .ok (.d (.int (f x)), ρ1) ∧ val ρ1 = .ok (.d (g x), ρ1)) →
    dcGo key val tg own (items.map .int) ρw acc = .ok (dI f g items acc, ρw)
  | [], acc, _ => rfl
  | x :: xs, acc, h => by
    obtain ⟨ρ1, h1, h2, h3⟩ := h x List.mem_cons_self
    have e := wipe_back (ρ := ρw) hw ht h1
    rw [List.map_cons]
    unfold dcGo
    rw [h1, got_some, h2, R.bd_ok, esc_d, got_some, h3, R.bd_ok, esc_d, got_some]
    refine (if_pos rfl).trans ?_
    show dcGo key val tg own (xs.map .int) (wipeE ρ1 own) _ = _
    rw [e]
    exact dcGo_pure f g ht hw fun y hy => h y (List.mem_cons_of_mem _ hy)
theorem ev_dcP {cx : Ctx} {own : List Nat} {key val : C} {tg : Tg} {w : Wk} {it : C} {ρ : Env} {rs : List Rv} {ds : List D} {items : List Int} (f : Int → Int) (g : Int → D) (h1 : ev cx it ρ = .ok (.l rs, ρ)) (h2 : reads ρ rs = some ds) (h3 : walked w ds = some (items.map .int)) (h4 : items.length ≤ big) (ht : ∀ i ∈ tgs tg, i ∈ own)
    (h5 : ∀ x ∈ items, ∃ ρ1, bindT (wipeE (wipeE ρ (lent rs)) own) tg (.int x) = some ρ1 ∧ ev cx key ρ1 = .ok (.d (.int (f x)), ρ1) ∧ ev cx val ρ1 = .ok (.d (g x), ρ1)) :
    ev cx (.dc own key val tg w it) ρ = .ok (.f (.dict (dI f g items [])), ρ) := by
  rw [ev, h1, R.bd_ok]
  show (got (some rs) fun rs => _) = _
  rw [got_some, h2, got_some, h3, got_some, if_pos (by rw [List.length_map]; exact h4), dcGo_pure f g ht wipeE_idem h5]
  show R.ok (_, backE (backE (wipeE (wipeE ρ (lent rs)) own) ρ own) ρ (lent rs)) = _
  rw [back_back]
end Iv
set_option maxRecDepth 100000
set_option maxHeartbeats 4000000
/-! Q1: who meets whom in which round: the plain law. -/
namespace Iv
open PySem PySem.Spec PyProof.Rows L2
/-- how many rounds before the couples of places p and q dance together, from round t on (for p = q: before the wait) -/
def meetP (n t p q : Nat) : Int := ((-2 - spotOf n p t - spotOf n q t) / 2) % n
theorem spotOf_par (n p t : Int) : spotOf n p t % 2 = t % 2 := by
  unfold spotOf
  split <;> omega
theorem spotOf_rg {n p : Nat} (t : Int) (h : p < n) : 0 ≤ spotOf n p t ∧ spotOf n p t < 2 * n := by
  unfold spotOf
  split <;> omega
theorem meetP_rg {n t p q : Nat} (h : 0 < n) : 0 ≤ meetP n t p q ∧ meetP n t p q < n := ⟨Int.emod_nonneg _ (by omega), Int.emod_lt_of_pos _ (by omega)⟩
theorem meetP_comm (n t p q : Nat) : meetP n t p q = meetP n t q p := by
  unfold meetP
  rw [show (-2 - spotOf n p t - spotOf n q t) = (-2 - spotOf n q t - spotOf n p t) by omega]
theorem emod0 {n c : Int} (h1 : 1 ≤ c) (h2 : c ≤ 2 * n) : c % n = 0 ↔ c = n ∨ c = 2 * n := by
  constructor
  · intro h
    by_cases e1 : c < n
    · rw [Int.emod_eq_of_lt (by omega) e1] at h
      omega
    · by_cases e2 : c < 2 * n
      · have e : c = (c - n) + n * 1 := by omega
        rw [e, Int.add_mul_emod_self_left, Int.emod_eq_of_lt (by omega) (by omega)] at h
        omega
      · omega
  · rintro (rfl | rfl)
    · exact Int.emod_self
    · exact Int.mul_emod_left 2 n
theorem meet_iff {n t p q : Nat} (hp : p < n) (hq : q < n) (r : Nat) : posF n t p r = sg n (t + r) (posF n t q r) ↔ (r : Int) % n = meetP n t p q := by
  have hn : 0 < n := by omega
  obtain ⟨d1, e1⟩ := dest_posF (t := t) hp r
  obtain ⟨d2, e2⟩ := dest_posF (t := t) hq r
  have l1 := posF_lt (t := t) hp r
  have l2 := posF_lt (t := t) hq r
  have p1 := spotOf_par n p t
  have p2 := spotOf_par n q t
  unfold dest placeOf at d1 d2
  have a1 := Int.emod_nonneg (spotOf n p t + r) (show (2 * n : Int) ≠ 0 by omega)
  have b1 := Int.emod_lt_of_pos (spotOf n p t + r) (show (0 : Int) < 2 * n by omega)
  have a2 := Int.emod_nonneg (spotOf n q t + r) (show (2 * n : Int) ≠ 0 by omega)
  have b2 := Int.emod_lt_of_pos (spotOf n q t + r) (show (0 : Int) < 2 * n by omega)
  have c1 := Int.emod_add_mul_ediv (spotOf n p t + r) (2 * n)
  have c2 := Int.emod_add_mul_ediv (spotOf n q t + r) (2 * n)
  unfold meetP
  generalize (spotOf n p t + r) / (2 * n : Int) = k1 at *
  generalize (spotOf n q t + r) / (2 * n : Int) = k2 at *
  generalize (spotOf n p t + r) % (2 * n : Int) = s1 at *
  generalize (spotOf n q t + r) % (2 * n : Int) = s2 at *
  generalize spotOf n p t = x at *
  generalize spotOf n q t = y at *
  generalize posF n t p r = P at *
  generalize posF n t q r = Q at *
  have ev : (x + y) % 2 = 0 := by omega
  have key : (r : Int) - (-2 - x - y) / 2 = (s1 + s2 + 2) / 2 + n * (k1 + k2) := by
    rw [Int.mul_assoc] at c1 c2
    rw [Int.mul_add]
    generalize (n : Int) * k1 = u at *
    generalize (n : Int) * k2 = v at *
    omega
  rw [Int.emod_eq_emod_iff_emod_sub_eq_zero, key, Int.add_mul_emod_self_left, emod0 (by omega) (by omega)]
  unfold sg
  constructor
  · intro h
    split at d1 <;> split at d2 <;> split at h <;> (try split at h) <;> omega
  · intro h
    split at d1 <;> split at d2 <;> split <;> (try split) <;> omega
theorem sg_inj {n t p q : Nat} (hp : p < n) (hq : q < n) (h : sg n t p = sg n t q) : p = q := by rw [← sg_sg (t := t) hp, h, sg_sg hq]
theorem posF_inj {n t p q : Nat} (hp : p < n) (hq : q < n) : ∀ {r : Nat}, posF n t p r = posF n t q r → p = q
  | 0, h => h
  | r + 1, h => posF_inj hp hq (sg_inj (posF_lt hp r) (posF_lt hq r) h)
theorem meetP_inj {n t p q q' : Nat} (hp : p < n) (hq : q < n) (hq' : q' < n) (h : meetP n t p q = meetP n t p q') : q = q' := by
  have hn : 0 < n := by omega
  obtain ⟨r0, r1⟩ := meetP_rg (t := t) (p := p) (q := q) hn
  have e : (((meetP n t p q).toNat : Nat) : Int) % n = meetP n t p q := by rw [Int.toNat_of_nonneg r0, Int.emod_eq_of_lt r0 r1]
  have h1 := (meet_iff hp hq _).mpr e
  have h2 := (meet_iff hp hq' _).mpr (e.trans h)
  exact posF_inj hq hq' (sg_inj (posF_lt hq _) (posF_lt hq' _) (h1.symm.trans h2))
/-- for each round a partner -/
theorem meetP_sur {n t p : Nat} (hp : p < n) (r : Nat) : ∃ q, q < n ∧ meetP n t p q = (r : Int) % n := by
  obtain ⟨q, hq, e⟩ : ∃ q, q < n ∧ posF n t q r = sg n (t + r) (posF n t p r) := by
    have h := posF_perm n t r
    have m : sg n (t + r) (posF n t p r) ∈ (List.range n).map fun p => posF n t p r := h.mem_iff.mpr (List.mem_range.mpr (sg_lt (posF_lt hp r)))
    obtain ⟨q, h1, h2⟩ := List.mem_map.mp m
    exact ⟨q, List.mem_range.mp h1, h2⟩
  refine ⟨q, hq, ?_⟩
  rw [meetP_comm]
  exact ((meet_iff hq hp r).mp e).symm

/-! ### couples -/
def meetL (L : List Int) (t : Nat) (x y : Int) : Int := meetP L.length t (L.idxOf x) (L.idxOf y)
theorem idx_lt {L : List Int} {x : Int} (h : x ∈ L) : L.idxOf x < L.length := List.idxOf_lt_length_iff.mpr h
theorem getD_idx {L : List Int} {x : Int} (h : x ∈ L) : L.getD (L.idxOf x) 0 = x := by
  rw [List.getD_eq_getElem?_getD, List.getElem?_eq_getElem (idx_lt h), List.getElem_idxOf]
  rfl
theorem idx_getD {L : List Int} (nd : L.Nodup) {p : Nat} (h : p < L.length) : L.idxOf (L.getD p 0) = p := getD_inj nd (idx_lt (getD_mem h)) h (getD_idx (getD_mem h))
theorem meetL_comm (L : List Int) (t : Nat) (x y : Int) : meetL L t x y = meetL L t y x := meetP_comm ..
theorem meetL_rg {L : List Int} {t : Nat} {x y : Int} (h : 0 < L.length) : 0 ≤ meetL L t x y ∧ meetL L t x y < L.length := meetP_rg h
theorem meetL_inj {L : List Int} {t : Nat} {x y y' : Int} (hx : x ∈ L) (hy : y ∈ L) (hy' : y' ∈ L) (h : meetL L t x y = meetL L t x y') : y = y' := by
  have := meetP_inj (idx_lt hx) (idx_lt hy) (idx_lt hy') h
  rw [← getD_idx hy, this, getD_idx hy']
theorem meetL_sur {L : List Int} (nd : L.Nodup) {t : Nat} {x : Int} (hx : x ∈ L) (r : Nat) : ∃ y, y ∈ L ∧ meetL L t x y = (r : Int) % L.length := by
  obtain ⟨q, hq, e⟩ := meetP_sur (t := t) (idx_lt hx) r
  refine ⟨L.getD q 0, getD_mem hq, ?_⟩
  unfold meetL
  rw [idx_getD nd hq]
  exact e
/-- where couple x stands after r rounds -/
theorem lineF_idx {L : List Int} (nd : L.Nodup) {t : Nat} {x : Int} (hx : x ∈ L) (r : Nat) : (lineF L t r).idxOf x = posF L.length t (L.idxOf x) r := by
  have h := lineF_pos (L := L) (t := t) (idx_lt hx) r
  rw [getD_idx hx] at h
  have l : posF L.length t (L.idxOf x) r < (lineF L t r).length := by rw [lineF_len]; exact posF_lt (idx_lt hx) r
  have := idx_getD (lineF_nd nd t r) l
  rw [h] at this
  exact this
theorem meetL_iff {L : List Int} (nd : L.Nodup) {t : Nat} {x y : Int} (hx : x ∈ L) (hy : y ∈ L) (r : Nat) : (lineF L t r).idxOf x = sg L.length (t + r) ((lineF L t r).idxOf y) ↔ (r : Int) % L.length = meetL L t x y := by
  rw [lineF_idx nd hx, lineF_idx nd hy]
  exact meet_iff (idx_lt hx) (idx_lt hy) r
theorem nPairs_le {n t j : Nat} (h : j < nPairs n t) : t % 2 + 2 * j + 1 < n := by
  unfold nPairs at h
  omega
theorem pair_mem {M : List Int} {t : Nat} {x y : Int} (h : (x, y) ∈ pairsL M t) : ∃ a, a + 1 < M.length ∧ a % 2 = t % 2 ∧ x = M.getD a 0 ∧ y = M.getD (a + 1) 0 := by
  unfold pairsL at h
  obtain ⟨j, hj, e⟩ := List.mem_map.mp h
  cases e
  exact ⟨t % 2 + 2 * j, nPairs_le (List.mem_range.mp hj), by omega, rfl, rfl⟩
/-- a pair of round t + r -/
theorem pair_meet {L : List Int} (nd : L.Nodup) {t r : Nat} {x y : Int} (h : (x, y) ∈ pairsL (lineF L t r) (t + r)) :
    x ∈ L ∧ y ∈ L ∧ meetL L t x y = (r : Int) % L.length ∧ (lineF L t r).idxOf y = (lineF L t r).idxOf x + 1 ∧ (lineF L t r).idxOf x % 2 = (t + r) % 2 := by
  obtain ⟨a, ha, hp, rfl, rfl⟩ := pair_mem h
  have mx := (lineF_perm t r).mem_iff.mp (getD_mem (L := lineF L t r) (q := a) (by omega))
  have my := (lineF_perm t r).mem_iff.mp (getD_mem (L := lineF L t r) (q := a + 1) ha)
  have i1 := idx_getD (lineF_nd nd t r) (p := a) (by omega)
  have i2 := idx_getD (lineF_nd nd t r) (p := a + 1) ha
  refine ⟨mx, my, ?_, by rw [i1, i2], by rw [i1]; exact hp⟩
  rw [lineF_len] at ha
  refine ((meetL_iff nd mx my r).mp ?_).symm
  rw [i1, i2]
  unfold sg
  rw [if_neg (by omega)]
  rfl
theorem wait_mem {M : List Int} {t : Nat} {x : Int} (h0 : 0 < M.length) (h : x ∈ waitL M t) : ∃ a, a < M.length ∧ (a = 0 ∨ a = M.length - 1) ∧ sg M.length t a = a ∧ x = M.getD a 0 := by
  unfold waitL at h
  rcases List.mem_append.mp h with h | h
  · split at h
    · rename_i ht
      rw [List.mem_singleton] at h
      refine ⟨0, h0, .inl rfl, ?_, h⟩
      unfold sg
      rw [if_neg (by omega)]
    · cases h
  · split at h
    · rename_i ht
      rw [List.mem_singleton] at h
      refine ⟨M.length - 1, by omega, .inr rfl, ?_, h⟩
      unfold sg
      rw [if_pos (by omega), if_neg (by omega)]
    · cases h
theorem wait_meet {L : List Int} (nd : L.Nodup) {t r : Nat} {x : Int} (h0 : 0 < L.length) (h : x ∈ waitL (lineF L t r) (t + r)) :
    x ∈ L ∧ meetL L t x x = (r : Int) % L.length ∧ ((lineF L t r).idxOf x = 0 ∨ (lineF L t r).idxOf x = L.length - 1) := by
  obtain ⟨a, ha, hp, hs, rfl⟩ := wait_mem (by rw [lineF_len]; exact h0) h
  have mx := (lineF_perm t r).mem_iff.mp (getD_mem (L := lineF L t r) ha)
  have i1 := idx_getD (lineF_nd nd t r) ha
  refine ⟨mx, ((meetL_iff nd mx mx r).mp ?_).symm, ?_⟩
  · rw [i1]
    rw [lineF_len] at hs
    exact hs.symm
  · rw [i1]
    rw [lineF_len] at hp
    exact hp

/-! ### turn numbers -/
def turnN (n p : Nat) : Int := if p % 2 = 0 then ((p / 2 : Nat) : Int) else n - (((p + 1) / 2 : Nat) : Int)
theorem spot_turn {n p : Nat} : spotOf n p 0 = 2 * turnN n p := by
  unfold spotOf turnN
  split <;> split <;> omega
theorem turnN_rg {n p : Nat} (h : p < n) : 0 ≤ turnN n p ∧ turnN n p < n := by
  unfold turnN
  split <;> omega
theorem meet_turn (n p q : Nat) : meetP n 0 p q = (-1 - turnN n p - turnN n q) % n := by
  unfold meetP
  show ((-2 - spotOf n p 0 - spotOf n q 0) / 2) % (n : Int) = _
  rw [spot_turn, spot_turn, show (-2 - 2 * turnN n p - 2 * turnN n q) / 2 = -1 - turnN n p - turnN n q by omega]
/-! ### how often -/
theorem often_succ {n f x : Int} (hn : 0 < n) (hf : 0 ≤ f) (hfn : f < n) (hx : 0 ≤ x) :
    (if x + 1 ≤ f then 0 else (x + 1 - 1 - f) / n + 1) = (if x ≤ f then 0 else (x - 1 - f) / n + 1) + (if (x - f) % n = 0 then 1 else 0) := by
  have e0 := Int.emod_add_mul_ediv (x - f) n
  have a0 := Int.emod_nonneg (x - f) (show n ≠ 0 by omega)
  have b0 := Int.emod_lt_of_pos (x - f) hn
  have e1 := Int.emod_add_mul_ediv (x - 1 - f) n
  have a1 := Int.emod_nonneg (x - 1 - f) (show n ≠ 0 by omega)
  have b1 := Int.emod_lt_of_pos (x - 1 - f) hn
  have e : x + 1 - 1 - f = x - f := by omega
  rw [e]
  by_cases h1 : x + 1 ≤ f
  · rw [if_pos h1, if_pos (show x ≤ f by omega), if_neg ?_]
    · rfl
    · intro h
      have : x - f = (x - f + n) + n * -1 := by omega
      rw [this, Int.add_mul_emod_self_left, Int.emod_eq_of_lt (by omega) (by omega)] at h
      omega
  · rw [if_neg h1]
    by_cases h2 : x ≤ f
    · have : x - f = 0 := by omega
      rw [if_pos h2, this]
      simp
    · rw [if_neg h2]
      by_cases h3 : (x - f) % n = 0
      · rw [if_pos h3]
        have k : (x - 1 - f) / n = (x - f) / n - 1 := by
          have : x - 1 - f = (n - 1) + n * ((x - f) / n - 1) := by
            rw [Int.mul_sub]
            omega
          rw [this, Int.add_mul_ediv_left _ _ (by omega), Int.ediv_eq_zero_of_lt (by omega) (by omega)]
          omega
        omega
      · rw [if_neg h3]
        have k : (x - 1 - f) / n = (x - f) / n := by
          have : x - 1 - f = ((x - f) % n - 1) + n * ((x - f) / n) := by omega
          rw [this, Int.add_mul_ediv_left _ _ (by omega), Int.ediv_eq_zero_of_lt (by omega) (by omega)]
          omega
        omega
end Iv
set_option maxRecDepth 100000
set_option maxHeartbeats 4000000
/-! Q2: meetings: the defs. -/
namespace Iv
open PySem PySem.Spec PyProof.Rows L2
def meetsC (i_spot_of : Nat) : S := (.seq (.asg 4 (.bi .len (.cons (.v 0) .nil))) (.seq (.par [5, 6] (.cons (.call i_spot_of (.cons (.v 4) (.cons (.me .index (.v 0) (.cons (.v 2) .nil)) (.cons (.v 1) .nil)))) (.cons (.call i_spot_of (.cons (.v 4) (.cons (.me .index (.v 0) (.cons (.v 3) .nil)) (.cons (.v 1) .nil)))) .nil))) (.seq (.ret (.op .Mod (.op .FloorDiv (.op .Sub (.op .Sub (.neg (.k (.int 2))) (.v 5)) (.v 6)) (.k (.int 2))) (.v 4))) .nil)))
def oftenC : S := (.seq (.ret (.ife (.tr (.cmp .LtE (.v 2) (.v 1))) (.k (.int 0)) (.op .Add (.op .FloorDiv (.op .Sub (.op .Sub (.v 2) (.k (.int 1))) (.v 1)) (.v 0)) (.k (.int 1))))) .nil)
def reqCoupleC (i_is_integer : Nat) : S := (.seq (.ife (.ort (.nott (.tr (.call i_is_integer (.cons (.v 1) (.cons (.k (.int 0)) (.cons (.k (.int 99)) .nil)))))) (.tr (.cmp .NotIn (.v 1) (.v 0)))) (.seq (.rse "InvalidCouple") .nil) .nil) .nil)
def reqTwoC (i_require_couple i_require_line : Nat) : S := (.seq (.exp (.call i_require_line (.cons (.v 0) .nil))) (.seq (.exp (.call i_require_couple (.cons (.v 0) (.cons (.v 1) .nil)))) (.seq (.exp (.call i_require_couple (.cons (.v 0) (.cons (.v 2) .nil)))) .nil)))
def timesMetC (i_meets_after i_often i_require_number i_require_two : Nat) : S := (.seq (.exp (.call i_require_two (.cons (.v 0) (.cons (.v 1) (.cons (.v 2) .nil))))) (.seq (.exp (.call i_require_number (.cons (.v 3) (.cons (.k (.int 0)) (.cons (.k (.int 1000000000000)) .nil))))) (.seq (.ret (.call i_often (.cons (.bi .len (.cons (.v 0) .nil)) (.cons (.call i_meets_after (.cons (.v 0) (.cons (.k (.int 0)) (.cons (.v 1) (.cons (.v 2) .nil))))) (.cons (.v 3) .nil))))) .nil)))
def meetingC (i_meets_after i_require_two : Nat) : S := (.seq (.exp (.call i_require_two (.cons (.v 0) (.cons (.v 1) (.cons (.v 2) .nil))))) (.seq (.ret (.call i_meets_after (.cons (.v 0) (.cons (.k (.int 0)) (.cons (.v 1) (.cons (.v 2) .nil)))))) .nil))
def isPairC_l0 (i_is_integer : Nat) : C := (.lc [2] (.andv (.call i_is_integer (.cons (.v 2) (.cons (.k (.int 0)) (.cons (.k (.int 99)) .nil)))) (.cmp .In (.v 2) (.v 0))) (.n 2) .seq (.cons (.v 1) .nil) (.k (.bool true)))
def isPairC (i_is_integer : Nat) : S := (.seq (.ife (.ort (.nott (.tr (.bi .istup (.cons (.v 1) .nil)))) (.tr (.cmp .NotEq (.bi .len (.cons (.v 1) .nil)) (.k (.int 2))))) (.seq (.ret (.k (.bool false))) .nil) .nil) (.seq (.ret (.bi .all (.cons (isPairC_l0 i_is_integer) .nil))) .nil))
def reqPairsC_l0 (i_is_pair : Nat) : C := (.lc [2] (.call i_is_pair (.cons (.v 0) (.cons (.v 2) .nil))) (.n 2) .seq (.cons (.v 1) .nil) (.k (.bool true)))
def reqPairsC (i_is_pair : Nat) : S := (.seq (.ife (.ort (.nott (.tr (.bi .istup (.cons (.v 1) .nil)))) (.ort (.tr (.cmp .Gt (.bi .len (.cons (.v 1) .nil)) (.k (.int 40)))) (.nott (.tr (.bi .all (.cons (reqPairsC_l0 i_is_pair) .nil)))))) (.seq (.rse "InvalidPairs") .nil) .nil) .nil)
def roundsWithC_l0 (i_meets_after : Nat) : C := (.lc [3, 4] (.call i_meets_after (.cons (.v 0) (.cons (.k (.int 0)) (.cons (.v 3) (.cons (.v 4) .nil))))) (.t [3, 4]) .seq (.cons (.v 1) .nil) (.k (.bool true)))
def roundsWithC_l1 : C := (.lc [3] (.cmp .Eq (.v 3) (.v 5)) (.n 3) .seq (.cons (.v 2) .nil) (.k (.bool true)))
def roundsWithC_l2 : C := (.lc [5] (.v 5) (.n 5) .r1 (.cons (.bi .len (.cons (.v 0) .nil)) .nil) (.tr (.bi .all (.cons roundsWithC_l1 .nil))))
def roundsWithC (i_meets_after i_require_line i_require_pairs : Nat) : S := (.seq (.exp (.call i_require_line (.cons (.v 0) .nil))) (.seq (.exp (.call i_require_pairs (.cons (.v 0) (.cons (.v 1) .nil)))) (.seq (.asg 2 (roundsWithC_l0 i_meets_after)) (.seq (.ret roundsWithC_l2) .nil))))
def turnOfC : S := (.seq (.ret (.ife (.tr (.cmp .Eq (.op .Mod (.v 1) (.k (.int 2))) (.k (.int 0)))) (.op .FloorDiv (.v 1) (.k (.int 2))) (.op .Sub (.v 0) (.op .FloorDiv (.op .Add (.v 1) (.k (.int 1))) (.k (.int 2)))))) .nil)
def turnNumberC (i_require_couple i_require_line i_turn_of : Nat) : S := (.seq (.exp (.call i_require_line (.cons (.v 0) .nil))) (.seq (.exp (.call i_require_couple (.cons (.v 0) (.cons (.v 1) .nil)))) (.seq (.ret (.call i_turn_of (.cons (.bi .len (.cons (.v 0) .nil)) (.cons (.me .index (.v 0) (.cons (.v 1) .nil)) .nil)))) .nil)))
def partnersC_l0 (i_meets_after : Nat) : C := (.dc [5] (.call i_meets_after (.cons (.v 0) (.cons (.k (.int 0)) (.cons (.v 1) (.cons (.v 5) .nil))))) (.v 5) (.n 5) .seq (.cons (.v 0) .nil))
def partnersC_l1 : C := (.lc [6] (.ix (.v 4) (.op .Mod (.v 6) (.bi .len (.cons (.v 0) .nil)))) (.n 6) .r2 (.cons (.v 2) (.cons (.op .Add (.v 2) (.v 3)) .nil)) (.k (.bool true)))
def partnersC (i_meets_after i_require_couple i_require_line i_require_number : Nat) : S := (.seq (.exp (.call i_require_line (.cons (.v 0) .nil))) (.seq (.exp (.call i_require_couple (.cons (.v 0) (.cons (.v 1) .nil)))) (.seq (.exp (.call i_require_number (.cons (.v 2) (.cons (.k (.int 0)) (.cons (.k (.int 1000000000000)) .nil))))) (.seq (.exp (.call i_require_number (.cons (.v 3) (.cons (.k (.int 0)) (.cons (.k (.int 100)) .nil))))) (.seq (.asg 4 (partnersC_l0 i_meets_after)) (.seq (.ret partnersC_l1) .nil))))))
theorem fdivP {a b : Int} (h : 0 < b) (h2 : b ≤ 1000) : binop .FloorDiv (.int a) (.int b) = some (.d (.int (a / b))) := if_pos ⟨h, abs_lt (by omega) (by omega)⟩
theorem neI2 (a b : Int) : (decide (a = b)) = decide (b = a) := by by_cases h : a = b <;> simp [h, eq_comm]
section
variable {cx : Ctx}
def MeetsF (f : FI) : Prop := f.io = false ∧ ∀ (L : List Int) (t : Nat) (x y : Int), 0 < L.length → L.length ≤ 1000 → x ∈ L → y ∈ L → f.sem [intsT L, .int t, .int x, .int y] = .ok (.int (meetL L t x y)) false
theorem sem_meets {fs : FI} {s0 : Nat} (hs0 : cx.fs[s0]? = some fs) (Hs0 : SpotF fs) {f : FI} (hio : f.io = false) (hs : ∀ ds, f.sem ds = run cx 7 false (meetsC s0) ds) : MeetsF f := by
  refine ⟨hio, fun L t x y h0 h1 hx hy => ?_⟩
  rw [hs]
  refine run_Fx ?_
  have hsp : ∀ (p : Nat) ρ, callF cx s0 [.d (.int L.length), .d (.int p), .d (.int t)] ρ = .ok (.d (.int (spotOf L.length p t)), ρ) := fun p ρ => callF_ok (fr := false) (ρ2 := ρ) hs0 Hs0.1 rfl (Hs0.2 _ _ _ (by omega))
  have hn : (0 : Int) < L.length := by omega
  show Fx (xec cx (meetsC s0) [.fz (intsT L), .fz (.int t), .fz (.int x), .fz (.int y), .no, .no, .no]) _ _
  simp [meetsC, lenT, me_ixT hx, me_ixT hy, hsp, subI, fdivP, modP hn, meetL, meetP]
def OftenF (f : FI) : Prop := f.io = false ∧ ∀ (n m r : Int), 0 < n → n ≤ 1000 → f.sem [.int n, .int m, .int r] = .ok (.int (if r ≤ m then 0 else (r - 1 - m) / n + 1)) false
theorem sem_often {f : FI} (hio : f.io = false) (hs : ∀ ds, f.sem ds = run cx 3 false oftenC ds) : OftenF f := by
  refine ⟨hio, fun n m r h0 h1 => ?_⟩
  rw [hs]
  refine run_Fx ?_
  show Fx (xec cx oftenC [.fz (.int n), .fz (.int m), .fz (.int r)]) _ _
  by_cases h : r ≤ m
  · simp [oftenC, leI, h]
  · simp [oftenC, leI, h, subI, fdivP h0 h1, addI]
def ReqCoupleF (f : FI) : Prop := f.io = false ∧ ∀ (L : List Int) (x : Int), LineOk L → x ∈ L → f.sem [intsT L, .int x] = .ok .none false
theorem sem_reqCouple {fi : FI} {i : Nat} (hi : cx.fs[i]? = some fi) (Hi : IsIntF fi) {f : FI} (hio : f.io = false) (hs : ∀ ds, f.sem ds = run cx 2 false (reqCoupleC i) ds) : ReqCoupleF f := by
  refine ⟨hio, fun L x ok hx => ?_⟩
  rw [hs]
  refine run_Fx ?_
  have hc : ∀ ρ, callF cx i [.d (.int x), .d (.int 0), .d (.int 99)] ρ = .ok (.d (.bool (decide (0 ≤ x) && decide (x ≤ 99))), ρ) := fun ρ => callF_ok (fr := false) (ρ2 := ρ) hi Hi.1 rfl (Hi.2 _ _ _)
  obtain ⟨r0, r1⟩ := ok.rg x hx
  show Fx (xec cx (reqCoupleC i) [.fz (intsT L), .fz (.int x)]) _ _
  simp [reqCoupleC, hc, r0, r1, notInT, hx]
def ReqTwoF (f : FI) : Prop := f.io = false ∧ ∀ (L : List Int) (x y : Int), LineOk L → x ∈ L → y ∈ L → f.sem [intsT L, .int x, .int y] = .ok .none false
theorem sem_reqTwo {fr fc : FI} {r c : Nat} (hr : cx.fs[r]? = some fr) (Hr : ReqF fr) (hc : cx.fs[c]? = some fc) (Hc : ReqCoupleF fc) {f : FI} (hio : f.io = false) (hs : ∀ ds, f.sem ds = run cx 3 false (reqTwoC c r) ds) : ReqTwoF f := by
  refine ⟨hio, fun L x y ok hx hy => ?_⟩
  rw [hs]
  refine run_Fx ?_
  have h1 : ∀ ρ, callF cx r [.d (intsT L)] ρ = .ok (.d .none, ρ) := fun ρ => callF_ok (fr := false) (ρ2 := ρ) hr Hr.1 rfl (Hr.2 L ok)
  have h2 : ∀ x ρ, x ∈ L → callF cx c [.d (intsT L), .d (.int x)] ρ = .ok (.d .none, ρ) := fun x ρ hx => callF_ok (fr := false) (ρ2 := ρ) hc Hc.1 rfl (Hc.2 L x ok hx)
  show Fx (xec cx (reqTwoC c r) [.fz (intsT L), .fz (.int x), .fz (.int y)]) _ _
  simp [reqTwoC, h1, h2, hx, hy]
def MeetingF (f : FI) : Prop := f.io = false ∧ ∀ (L : List Int) (x y : Int), LineOk L → x ∈ L → y ∈ L → f.sem [intsT L, .int x, .int y] = .ok (.int (meetL L 0 x y)) false
theorem callF_meets {f : FI} {m : Nat} (hm : cx.fs[m]? = some f) (Hm : MeetsF f) {L : List Int} (ok : LineOk L) {x y : Int} (hx : x ∈ L) (hy : y ∈ L) (ρ : Env) : callF cx m [.d (intsT L), .d (.int 0), .d (.int x), .d (.int y)] ρ = .ok (.d (.int (meetL L 0 x y)), ρ) :=
  callF_ok (fr := false) (ρ2 := ρ) hm Hm.1 rfl (Hm.2 L 0 x y (by have := ok.lo; omega) (by have := ok.hi; omega) hx hy)
theorem sem_meeting {fr fm : FI} {r m : Nat} (hr : cx.fs[r]? = some fr) (Hr : ReqTwoF fr) (hm : cx.fs[m]? = some fm) (Hm : MeetsF fm) {f : FI} (hio : f.io = false) (hs : ∀ ds, f.sem ds = run cx 3 false (meetingC m r) ds) : MeetingF f := by
  refine ⟨hio, fun L x y ok hx hy => ?_⟩
  rw [hs]
  refine run_Fx ?_
  have h1 : ∀ ρ, callF cx r [.d (intsT L), .d (.int x), .d (.int y)] ρ = .ok (.d .none, ρ) := fun ρ => callF_ok (fr := false) (ρ2 := ρ) hr Hr.1 rfl (Hr.2 L x y ok hx hy)
  show Fx (xec cx (meetingC m r) [.fz (intsT L), .fz (.int x), .fz (.int y)]) _ _
  simp [meetingC, h1, callF_meets hm Hm ok hx hy]
def oftenI (n m r : Int) : Int := if r ≤ m then 0 else (r - 1 - m) / n + 1
def TimesF (f : FI) : Prop := f.io = false ∧ ∀ (L : List Int) (x y k : Int), LineOk L → x ∈ L → y ∈ L → 0 ≤ k → k ≤ 1000000000000 → f.sem [intsT L, .int x, .int y, .int k] = .ok (.int (oftenI L.length (meetL L 0 x y) k)) false
theorem sem_times {fr fm fo fn : FI} {r m o n : Nat} (hr : cx.fs[r]? = some fr) (Hr : ReqTwoF fr) (hm : cx.fs[m]? = some fm) (Hm : MeetsF fm) (ho : cx.fs[o]? = some fo) (Ho : OftenF fo) (hn : cx.fs[n]? = some fn) (Hn : ReqNF fn)
    {f : FI} (hio : f.io = false) (hs : ∀ ds, f.sem ds = run cx 4 false (timesMetC m o n r) ds) : TimesF f := by
  refine ⟨hio, fun L x y k ok hx hy k0 k1 => ?_⟩
  rw [hs]
  refine run_Fx ?_
  have h1 : ∀ ρ, callF cx r [.d (intsT L), .d (.int x), .d (.int y)] ρ = .ok (.d .none, ρ) := fun ρ => callF_ok (fr := false) (ρ2 := ρ) hr Hr.1 rfl (Hr.2 L x y ok hx hy)
  have h2 : ∀ ρ, callF cx n [.d (.int k), .d (.int 0), .d (.int 1000000000000)] ρ = .ok (.d .none, ρ) := fun ρ => callF_ok (fr := false) (ρ2 := ρ) hn Hn.1 rfl (Hn.2 _ _ _ k0 k1)
  have h3 : ∀ ρ, callF cx o [.d (.int L.length), .d (.int (meetL L 0 x y)), .d (.int k)] ρ = .ok (.d (.int (oftenI L.length (meetL L 0 x y) k)), ρ) := fun ρ => callF_ok (fr := false) (ρ2 := ρ) ho Ho.1 rfl (Ho.2 _ _ _ (by have := ok.lo; omega) (by have := ok.hi; omega))
  show Fx (xec cx (timesMetC m o n r) [.fz (intsT L), .fz (.int x), .fz (.int y), .fz (.int k)]) _ _
  simp [timesMetC, h1, h2, lenT, callF_meets hm Hm ok hx hy, h3]
def TurnOfF (f : FI) : Prop := f.io = false ∧ ∀ (n p : Nat), f.sem [.int n, .int p] = .ok (.int (turnN n p)) false
theorem sem_turnOf {f : FI} (hio : f.io = false) (hs : ∀ ds, f.sem ds = run cx 2 false turnOfC ds) : TurnOfF f := by
  refine ⟨hio, fun n p => ?_⟩
  rw [hs]
  refine run_Fx ?_
  show Fx (xec cx turnOfC [.fz (.int n), .fz (.int p)]) _ _
  by_cases h : p % 2 = 0
  · have h' : (p : Int) % 2 = 0 := by omega
    simp [turnOfC, modP, eqI, h', fdivP, turnN, h]
  · have h' : ¬ (p : Int) % 2 = 0 := by omega
    simp [turnOfC, modP, eqI, h', fdivP, subI, addI, turnN, h]
def TurnNumF (f : FI) : Prop := f.io = false ∧ ∀ (L : List Int) (x : Int), LineOk L → x ∈ L → f.sem [intsT L, .int x] = .ok (.int (turnN L.length (L.idxOf x))) false
theorem sem_turnNum {fr fc ft : FI} {r c t : Nat} (hr : cx.fs[r]? = some fr) (Hr : ReqF fr) (hc : cx.fs[c]? = some fc) (Hc : ReqCoupleF fc) (ht : cx.fs[t]? = some ft) (Ht : TurnOfF ft) {f : FI} (hio : f.io = false) (hs : ∀ ds, f.sem ds = run cx 2 false (turnNumberC c r t) ds) : TurnNumF f := by
  refine ⟨hio, fun L x ok hx => ?_⟩
  rw [hs]
  refine run_Fx ?_
  have h1 : ∀ ρ, callF cx r [.d (intsT L)] ρ = .ok (.d .none, ρ) := fun ρ => callF_ok (fr := false) (ρ2 := ρ) hr Hr.1 rfl (Hr.2 L ok)
  have h2 : ∀ ρ, callF cx c [.d (intsT L), .d (.int x)] ρ = .ok (.d .none, ρ) := fun ρ => callF_ok (fr := false) (ρ2 := ρ) hc Hc.1 rfl (Hc.2 L x ok hx)
  have h3 : ∀ ρ, callF cx t [.d (.int L.length), .d (.int (L.idxOf x : Nat))] ρ = .ok (.d (.int (turnN L.length (L.idxOf x))), ρ) := fun ρ => callF_ok (fr := false) (ρ2 := ρ) ht Ht.1 rfl (Ht.2 _ _)
  show Fx (xec cx (turnNumberC c r t) [.fz (intsT L), .fz (.int x)]) _ _
  simp [turnNumberC, h1, h2, lenT, me_ixT hx, h3]

/-! ### partners -/
def partL (L : List Int) (x : Int) (r : Int) : Int := (L.find? fun y => decide (meetL L 0 x y = r % L.length)).getD 0
theorem partL_eq {L : List Int} {x y r : Int} (hx : x ∈ L) (hy : y ∈ L) (h : meetL L 0 x y = r % L.length) : partL L x r = y := by
  unfold partL
  cases e : L.find? fun y => decide (meetL L 0 x y = r % L.length) with
  | none =>
    rw [List.find?_eq_none] at e
    exact absurd (decide_eq_true h) (e y hy)
  | some z =>
    have h1 := List.mem_of_find?_eq_some e
    have h2 := List.find?_some e
    rw [decide_eq_true_eq] at h2
    exact meetL_inj hx h1 hy (h2.trans h.symm)
theorem partL_mem {L : List Int} (nd : L.Nodup) {x r : Int} (hx : x ∈ L) (hr : 0 ≤ r) : partL L x r ∈ L ∧ meetL L 0 x (partL L x r) = r % L.length := by
  obtain ⟨y, hy, e⟩ := meetL_sur nd (t := 0) hx r.toNat
  rw [Int.toNat_of_nonneg hr] at e
  rw [partL_eq hx hy e]
  exact ⟨hy, e⟩
def partsL (L : List Int) (x first : Int) (count : Nat) : List Int := (List.range count).map fun (k : Nat) => partL L x (first + k)
theorem rangeD_ints (a : Int) (n : Nat) : rangeD a n = ((List.range n).map fun (k : Nat) => a + (k : Int)).map .int := by
  unfold rangeD
  rw [List.map_map]
  rfl
theorem walk2 {a : Int} {n : Nat} (h0 : 0 ≤ a) (h1 : a ≤ lim) (h2 : n ≤ 1000) : walked .r2 [.int a, .int (a + n)] = some (rangeD a n) := by
  have hl := limN
  have e : (a + (n : Int) - a).toNat = n := by omega
  show (if smallI a = true ∧ smallI (a + n) = true then some (rangeD a (a + n - a).toNat) else none) = _
  rw [if_pos ⟨smallI_of (by omega) (by omega), smallI_of (by omega) (by omega)⟩, e]
def PartnersF (f : FI) : Prop := f.io = false ∧ ∀ (L : List Int) (x first : Int) (count : Nat), LineOk L → x ∈ L → 0 ≤ first → first ≤ 1000000000000 → count ≤ 100 → f.sem [intsT L, .int x, .int first, .int count] = .ok (intsL (partsL L x first count)) true
theorem sem_partners {fr fc fm fn : FI} {r c m n : Nat} (hr : cx.fs[r]? = some fr) (Hr : ReqF fr) (hc : cx.fs[c]? = some fc) (Hc : ReqCoupleF fc) (hm : cx.fs[m]? = some fm) (Hm : MeetsF fm) (hn : cx.fs[n]? = some fn) (Hn : ReqNF fn)
    {f : FI} (hio : f.io = false) (hs : ∀ ds, f.sem ds = run cx 7 false (partnersC m c r n) ds) : PartnersF f := by
  refine ⟨hio, fun L x first count ok hx f0 f1 hcnt => ?_⟩
  rw [hs]
  refine run_Fx ?_
  have h1 : ∀ ρ, callF cx r [.d (intsT L)] ρ = .ok (.d .none, ρ) := fun ρ => callF_ok (fr := false) (ρ2 := ρ) hr Hr.1 rfl (Hr.2 L ok)
  have h2 : ∀ ρ, callF cx c [.d (intsT L), .d (.int x)] ρ = .ok (.d .none, ρ) := fun ρ => callF_ok (fr := false) (ρ2 := ρ) hc Hc.1 rfl (Hc.2 L x ok hx)
  have h3 : ∀ ρ, callF cx n [.d (.int first), .d (.int 0), .d (.int 1000000000000)] ρ = .ok (.d .none, ρ) := fun ρ => callF_ok (fr := false) (ρ2 := ρ) hn Hn.1 rfl (Hn.2 _ _ _ f0 f1)
  have h4 : ∀ ρ, callF cx n [.d (.int count), .d (.int 0), .d (.int 100)] ρ = .ok (.d .none, ρ) := fun ρ => callF_ok (fr := false) (ρ2 := ρ) hn Hn.1 rfl (Hn.2 _ _ _ (by omega) (by omega))
  have lo := ok.lo
  have hi := ok.hi
  have hdc : ∀ ρ : Env, ρ.length = 7 → get ρ 0 = .fz (intsT L) → get ρ 1 = .fz (.int x) → ev cx (partnersC_l0 m) ρ = .ok (.f (.dict (dI (fun y => meetL L 0 x y) .int L [])), ρ) := fun ρ hl g0 g1 => by
    refine ev_dcP (rs := [.d (intsT L)]) (ds := [intsT L]) _ _ (by simp [g0]) rfl rfl (le_bigS (by omega)) (fun i hi => hi) fun y hy => ⟨_, rfl, ?_, ?_⟩
    · simp [hl, g0, g1, callF_meets hm Hm ok hx hy]
    · simp [hl]
  have hlc : ∀ ρ : Env, ρ.length = 7 → get ρ 0 = .fz (intsT L) → get ρ 2 = .fz (.int first) → get ρ 3 = .fz (.int count) → get ρ 4 = .ow (.dict (dI (fun y => meetL L 0 x y) .int L [])) → ev cx partnersC_l1 ρ = .ok (.f (intsL (partsL L x first count)), ρ) := fun ρ hl g0 g2 g3 g4 => by
    have ik : intKeys (dI (fun y => meetL L 0 x y) .int L []) := dI_keys fun p hp => nomatch hp
    have e := ev_lcP (cx := cx) (own := [6]) (elt := .ix (.v 4) (.op .Mod (.v 6) (.bi .len (.cons (.v 0) .nil)))) (tg := .n 6) (w := .r2) (it := .cons (.v 2) (.cons (.op .Add (.v 2) (.v 3)) .nil)) (ifs := .k (.bool true)) (ρ := ρ) (rs := [.d (.int first), .d (.int (first + count))]) (ds := [.int first, .int (first + count)])
      (fun d => match d with | .int k => some (.int (partL L x k)) | _ => none) (by simp [g2, g3, addI]) rfl (walk2 f0 (by have := limN; omega) (by omega)) (by rw [rangeD_length]; exact le_bigS (by omega)) (fun i hi => hi) (fun d hd => by
        rw [rangeD_ints] at hd
        obtain ⟨k, hk, rfl⟩ := List.mem_map.mp hd
        obtain ⟨j, hj, rfl⟩ := List.mem_map.mp hk
        obtain ⟨p1, p2⟩ := partL_mem ok.nd (x := x) (r := first + j) hx (by omega)
        have hv : dval (dI (fun y => meetL L 0 x y) .int L []) (.int ((first + j) % L.length)) = some (.int (partL L x (first + j))) := dI_val (fun p hp => nomatch hp) (fun y hy q => congrArg PyData.int (meetL_inj hx hy p1 (q.trans p2.symm))) (.inl ⟨_, p1, p2⟩)
        have hL : (0 : Int) < L.length := by omega
        refine ⟨_, rfl, by simp, .d (.int (partL L x (first + j))), ?_, rfl⟩
        simp [hl, g0, g4, lenT, modP hL, ixD (intKeys_dkeys ik) (intKeys_ok ik _) hv])
    unfold partnersC_l1
    rw [e, rangeD_ints, List.filterMap_map]
    unfold intsL partsL
    congr 4
    rw [List.map_map, List.filterMap_map]
    induction List.range count with
    | nil => rfl
    | cons k ks ih =>
      rw [List.filterMap_cons, List.map_cons, ← ih]
      rfl
  show Fx (xec cx (partnersC m c r n) [.fz (intsT L), .fz (.int x), .fz (.int first), .fz (.int count), .no, .no, .no]) _ _
  simp [partnersC, h1, h2, h3, h4, hdc, hlc]

/-! ### pairs -/
theorem boolsD_map : ∀ bs : List Bool, boolsD (bs.map .bool) = some bs
  | [] => rfl
  | b :: bs => by simp [boolsD, boolsD_map bs]
theorem fAll_map (bs : List Bool) : fAll (.list (bs.map .bool)) = some (.d (.bool (bs.all id))) := by
  unfold fAll
  simp only [boolsD_map]
  rfl
theorem fAll_comp {α : Type} (p : α → Bool) (xs : List α) : fAll (.list (xs.map (PyData.bool ∘ p))) = some (.d (.bool (xs.all p))) := by
  rw [← List.map_map, fAll_map, List.all_map]
  rfl
/-- from pairs of numbers -/
def pairMap (g : Int → Int → D) : D → Option D
  | .tuple [.int a, .int b] => some (g a b)
  | _ => none
theorem fm_pairs (g : Int → Int → D) : ∀ seen : List (Int × Int), (seen.map pairD).filterMap (pairMap g) = seen.map fun p => g p.1 p.2
  | [] => rfl
  | p :: ps => by
    rw [List.map_cons, List.filterMap_cons, fm_pairs g ps]
    rfl
theorem fm_map {α β : Type} (f : α → β) (l : List α) : l.filterMap (fun x => some (f x)) = l.map f := by
  induction l with
  | nil => rfl
  | cons x l ih => rw [List.filterMap_cons, ih]; rfl
/-- all([test for d in ds]) -/
theorem ev_lcAll {k : Nat} {elt it : C} {ρ : Env} {rs : List Rv} {ds items : List D} (t : D → Bool) (h1 : ev cx it ρ = .ok (.l rs, ρ)) (h2 : reads ρ rs = some ds) (h3 : walked .seq ds = some items) (h4 : items.length ≤ big)
    (h5 : ∀ x ∈ items, ∀ ρ1, ρ1 = (wipeE (wipeE ρ (lent rs)) [k]).set k (.fz x) → ev cx elt ρ1 = .ok (.d (.bool (t x)), ρ1)) :
    ev cx (.lc [k] elt (.n k) .seq it (.k (.bool true))) ρ = .ok (.f (.list ((items.map t).map .bool)), ρ) := by
  rw [ev_lcP (own := [k]) (tg := .n k) (elt := elt) (ifs := .k (.bool true)) (fun d => some (.bool (t d))) h1 h2 h3 h4 (fun i hi => hi) fun x hx => ⟨_, rfl, rfl, .d (.bool (t x)), h5 x hx _ rfl, rfl⟩, fm_map, List.map_map]
  rfl
/-- [elt for x in numbers] -/
theorem ev_lcI {k : Nat} {w : Wk} {elt it : C} {ρ : Env} {rs : List Rv} {ds : List D} {L : List Int} (g : Int → D) (h1 : ev cx it ρ = .ok (.l rs, ρ)) (h2 : reads ρ rs = some ds) (h3 : walked w ds = some (L.map .int)) (h4 : L.length ≤ big)
    (h5 : ∀ x ∈ L, ∀ ρ1, ρ1 = (wipeE (wipeE ρ (lent rs)) [k]).set k (.fz (.int x)) → ∃ r, ev cx elt ρ1 = .ok (r, ρ1) ∧ esc ρ1 r = some (g x, ρ1)) :
    ev cx (.lc [k] elt (.n k) w it (.k (.bool true))) ρ = .ok (.f (.list (L.map g)), ρ) := by
  rw [ev_lcP (own := [k]) (tg := .n k) (elt := elt) (ifs := .k (.bool true)) (fun d => (intOf d).map g) h1 h2 h3 (by rw [List.length_map]; exact h4) (fun i hi => hi) fun d hd => by
    obtain ⟨x, hx, rfl⟩ := List.mem_map.mp hd
    obtain ⟨r, h6, h7⟩ := h5 x hx _ rfl
    exact ⟨_, rfl, rfl, r, h6, h7⟩, List.filterMap_map]
  show R.ok (Rv.f (.list (L.filterMap fun x => some (g x))), ρ) = _
  rw [fm_map]
/-- [elt for x, y in pairs] -/
theorem ev_lcPr {i j : Nat} {w : Wk} {elt it : C} {ρ : Env} {rs : List Rv} {ds : List D} {L : List (Int × Int)} (g : Int → Int → D) (h1 : ev cx it ρ = .ok (.l rs, ρ)) (h2 : reads ρ rs = some ds) (h3 : walked w ds = some (L.map pairD)) (h4 : L.length ≤ big)
    (h5 : ∀ p ∈ L, ∀ ρ1, ρ1 = ((wipeE (wipeE ρ (lent rs)) [i, j]).set i (.fz (.int p.1))).set j (.fz (.int p.2)) → ∃ r, ev cx elt ρ1 = .ok (r, ρ1) ∧ esc ρ1 r = some (g p.1 p.2, ρ1)) :
    ev cx (.lc [i, j] elt (.t [i, j]) w it (.k (.bool true))) ρ = .ok (.f (.list (L.map fun p => g p.1 p.2)), ρ) := by
  rw [ev_lcP (own := [i, j]) (tg := .t [i, j]) (elt := elt) (ifs := .k (.bool true)) (pairMap g) h1 h2 h3 (by rw [List.length_map]; exact h4) (fun i hi => hi) fun d hd => by
    obtain ⟨x, hx, rfl⟩ := List.mem_map.mp hd
    obtain ⟨r, h6, h7⟩ := h5 x hx _ rfl
    exact ⟨_, rfl, rfl, r, h6, h7⟩, fm_pairs]
/-- a couple of the line -/
def cplB (L : List Int) (d : D) : Bool := match d with
  | .int i => decide (0 ≤ i) && decide (i ≤ 99) && decide (i ∈ L)
  | _ => false
def isPairB (L : List Int) (d : D) : Bool := match d with
  | .tuple xs => decide (xs.length = 2) && xs.all (cplB L)
  | _ => false
def plainD (d : D) : Bool := match d with
  | .dict _ => false
  | .tuple xs => xs.all noDict
  | _ => true
def IsPairF (f : FI) : Prop := f.io = false ∧ ∀ (L : List Int) (d : D), plainD d = true → f.sem [intsT L, d] = .ok (.bool (isPairB L d)) false
theorem isTupX {d : D} (h : noDict d = true) (h2 : ∀ xs, d ≠ .tuple xs) : fIs "tuple" d = some (.d (.bool false)) := by
  cases d with
  | tuple xs => exact absurd rfl (h2 xs)
  | dict _ => cases h
  | none => rfl
  | bool _ => rfl
  | int _ => rfl
  | str _ => rfl
  | list _ => rfl
theorem sem_isPair {fi : FI} {i : Nat} (hi : cx.fs[i]? = some fi) (Hi : IsIntG fi) {f : FI} (hio : f.io = false) (hs : ∀ ds, f.sem ds = run cx 3 false (isPairC i) ds) : IsPairF f := by
  refine ⟨hio, fun L d hp => ?_⟩
  rw [hs]
  refine run_Fx ?_
  have hc : ∀ x ρ, noDict x = true → callF cx i [.d x, .d (.int 0), .d (.int 99)] ρ = .ok (.d (.bool (isIntB x 0 99)), ρ) := fun x ρ hx => callF_ok (fr := false) (ρ2 := ρ) hi Hi.1 rfl (Hi.2 x 0 99 hx)
  show Fx (xec cx (isPairC i) [.fz (intsT L), .fz d, .no]) _ _
  by_cases ht : ∃ xs, d = .tuple xs
  · obtain ⟨xs, rfl⟩ := ht
    have hp : xs.all noDict = true := hp
    by_cases hl : xs.length = 2
    · have hl2 : (xs.length : Int) = 2 := by omega
      have hlc : ∀ ρ1 : Env, ρ1.length = 3 → get ρ1 0 = .fz (intsT L) → get ρ1 1 = .fz (.tuple xs) → ev cx (isPairC_l0 i) ρ1 = .ok (.f (.list ((xs.map (cplB L)).map .bool)), ρ1) := fun ρ1 l1 g0 g1 => by
        refine ev_lcAll (rs := [.d (.tuple xs)]) (ds := [.tuple xs]) _ (by simp [g1]) rfl rfl (le_bigS (by omega)) fun x hx ρ2 e2 => ?_
        subst e2
        have hx0 := List.all_eq_true.mp hp x hx
        simp [l1, g0, hc x _ hx0]
        cases x with
        | int k =>
          show andB (decide (0 ≤ k) && decide (k ≤ 99)) _ _ _ = _
          by_cases hk : 0 ≤ k ∧ k ≤ 99
          · simp [hk, l1, g0, inT, cplB]
          · have e : (decide (0 ≤ k) && decide (k ≤ 99)) = false := by simpa using hk
            rw [e]
            simp [cplB, e]
        | none => rfl
        | bool _ => rfl
        | str _ => rfl
        | list _ => rfl
        | tuple _ => rfl
        | dict _ => cases hx0
      simp [isPairC, lenTT, neI, hl2, hlc, fAll_comp, isPairB, hl]
    · have hl2 : ¬ (xs.length : Int) = 2 := by omega
      simp [isPairC, lenTT, neI, hl2, isPairB, hl]
  · have hn : noDict d = true := by cases d <;> first | rfl | cases hp
    have e := isTupX hn fun xs h => ht ⟨xs, h⟩
    have e2 : isPairB L d = false := by cases d <;> first | rfl | exact absurd ⟨_, rfl⟩ ht
    simp [isPairC, e, e2]
def ReqPairsF (f : FI) : Prop := f.io = false ∧ ∀ (L : List Int) (ds : List D), ds.all plainD = true → ds.all (isPairB L) = true → ds.length ≤ 40 → f.sem [intsT L, .tuple ds] = .ok .none false
theorem sem_reqPairs {fi : FI} {i : Nat} (hi : cx.fs[i]? = some fi) (Hi : IsPairF fi) {f : FI} (hio : f.io = false) (hs : ∀ ds, f.sem ds = run cx 3 false (reqPairsC i) ds) : ReqPairsF f := by
  refine ⟨hio, fun L ds hp hq hl => ?_⟩
  rw [hs]
  refine run_Fx ?_
  have h5 : ¬ (40 : Int) < (ds.length : Int) := by omega
  have hlc : ∀ ρ1 : Env, ρ1.length = 3 → get ρ1 0 = .fz (intsT L) → get ρ1 1 = .fz (.tuple ds) → ev cx (reqPairsC_l0 i) ρ1 = .ok (.f (.list ((ds.map (isPairB L)).map .bool)), ρ1) := fun ρ1 l1 g0 g1 => by
    refine ev_lcAll (rs := [.d (.tuple ds)]) (ds := [.tuple ds]) _ (by simp [g1]) rfl rfl (le_bigS (by omega)) fun x hx ρ2 e2 => ?_
    subst e2
    have hc : ∀ ρ, callF cx i [.d (intsT L), .d x] ρ = .ok (.d (.bool (isPairB L x)), ρ) := fun ρ => callF_ok (fr := false) (ρ2 := ρ) hi Hi.1 rfl (Hi.2 L x (List.all_eq_true.mp hp x hx))
    simp [l1, g0, hc]
  show Fx (xec cx (reqPairsC i) [.fz (intsT L), .fz (.tuple ds), .no]) _ _
  simp [reqPairsC, lenTT, gtI, h5, hlc, fAll_comp, hq]
def RoundsF (f : FI) : Prop := f.io = false ∧ ∀ (L : List Int) (seen : List (Int × Int)), LineOk L → (∀ p ∈ seen, p.1 ∈ L ∧ p.2 ∈ L) → seen.length ≤ 40 →
  f.sem [intsT L, .tuple (seen.map pairD)] = .ok (intsL (((List.range L.length).map fun (k : Nat) => (k : Int)).filter fun r => seen.all fun p => decide (meetL L 0 p.1 p.2 = r))) true
theorem pair_plain (seen : List (Int × Int)) : (seen.map pairD).all plainD = true := by
  rw [List.all_map, List.all_eq_true]
  intro p _
  rfl
theorem pair_isB {L : List Int} (ok : LineOk L) {seen : List (Int × Int)} (h : ∀ p ∈ seen, p.1 ∈ L ∧ p.2 ∈ L) : (seen.map pairD).all (isPairB L) = true := by
  rw [List.all_map, List.all_eq_true]
  intro p hp
  obtain ⟨h1, h2⟩ := h p hp
  obtain ⟨a1, a2⟩ := ok.rg _ h1
  obtain ⟨b1, b2⟩ := ok.rg _ h2
  simp [isPairB, pairD, cplB, h1, h2, a1, a2, b1, b2]
theorem sem_rounds {fr fp fm : FI} {r p m : Nat} (hr : cx.fs[r]? = some fr) (Hr : ReqF fr) (hp : cx.fs[p]? = some fp) (Hp : ReqPairsF fp) (hm : cx.fs[m]? = some fm) (Hm : MeetsF fm) {f : FI} (hio : f.io = false) (hs : ∀ ds, f.sem ds = run cx 6 false (roundsWithC m r p) ds) : RoundsF f := by
  refine ⟨hio, fun L seen ok hseen hlen => ?_⟩
  rw [hs]
  refine run_Fx ?_
  have lo := ok.lo
  have hi := ok.hi
  have h1 : ∀ ρ, callF cx r [.d (intsT L)] ρ = .ok (.d .none, ρ) := fun ρ => callF_ok (fr := false) (ρ2 := ρ) hr Hr.1 rfl (Hr.2 L ok)
  have h2 : ∀ ρ, callF cx p [.d (intsT L), .d (.tuple (seen.map pairD))] ρ = .ok (.d .none, ρ) := fun ρ => callF_ok (fr := false) (ρ2 := ρ) hp Hp.1 rfl (Hp.2 L _ (pair_plain seen) (pair_isB ok hseen) (by rw [List.length_map]; exact hlen))
  have hl0 : ∀ ρ : Env, ρ.length = 6 → get ρ 0 = .fz (intsT L) → get ρ 1 = .fz (.tuple (seen.map pairD)) → ev cx (roundsWithC_l0 m) ρ = .ok (.f (intsL (seen.map fun p => meetL L 0 p.1 p.2)), ρ) := fun ρ hl g0 g1 => by
    have e := ev_lcP (cx := cx) (own := [3, 4]) (elt := .call m (.cons (.v 0) (.cons (.k (.int 0)) (.cons (.v 3) (.cons (.v 4) .nil))))) (tg := .t [3, 4]) (w := .seq) (it := .cons (.v 1) .nil) (ifs := .k (.bool true)) (ρ := ρ) (rs := [.d (.tuple (seen.map pairD))]) (ds := [.tuple (seen.map pairD)])
      (pairMap fun a b => .int (meetL L 0 a b)) (by simp [g1]) rfl rfl (by rw [List.length_map]; exact le_bigS (by omega)) (fun i hi => hi) (fun d hd => by
        obtain ⟨q, hq, rfl⟩ := List.mem_map.mp hd
        obtain ⟨m1, m2⟩ := hseen q hq
        refine ⟨_, rfl, by simp, .d (.int (meetL L 0 q.1 q.2)), ?_, rfl⟩
        simp [hl, g0, callF_meets hm Hm ok m1 m2])
    unfold roundsWithC_l0
    rw [e, fm_pairs]
    unfold intsL
    rw [List.map_map]
    rfl
  generalize hN : (seen.map fun p => meetL L 0 p.1 p.2) = N at hl0
  have hl1 : ∀ (ρ : Env) (k : Int), ρ.length = 6 → get ρ 2 = .ow (intsL N) → get ρ 5 = .fz (.int k) → ev cx roundsWithC_l1 ρ = .ok (.f (.list (((N.map PyData.int).map fun d => match d with | .int j => decide (j = k) | _ => false).map .bool)), ρ) := fun ρ k hl g2 g5 => by
    refine ev_lcAll (rs := [.o 2]) (ds := [intsL N]) _ (by simp [g2]) (by simp [g2]) rfl (by rw [List.length_map, ← hN, List.length_map]; exact le_bigS (by omega)) fun x hx ρ2 e2 => ?_
    subst e2
    obtain ⟨j, _, rfl⟩ := List.mem_map.mp hx
    simp [hl, g5, eqI]
  have hl2 : ∀ ρ : Env, ρ.length = 6 → get ρ 0 = .fz (intsT L) → get ρ 2 = .ow (intsL N) → ev cx roundsWithC_l2 ρ = .ok (.f (intsL (((List.range L.length).map fun (k : Nat) => (k : Int)).filter fun r => N.all fun j => decide (j = r))), ρ) := fun ρ hl g0 g2 => by
    refine ev_lcFilt (rs := [.d (.int L.length)]) (ds := [.int L.length]) _ (by simp [g0, lenT]) rfl ?_ (by rw [List.length_map, List.length_range]; exact le_bigS (by omega)) (by omega) fun k hk ρ2 e2 => ?_
    · rw [walk1 (by have := limN; omega), rangeD_ints]
      simp
    · subst e2
      have := hl1 ((wipeE (wipeE ρ (lent [Rv.d (.int L.length)])) [5]).set 5 (.fz (.int k))) k (by simp [hl]) (by simp [g2]) (by simp [hl])
      simp at this
      simp [this, fAll_comp]
      rfl
  show Fx (xec cx (roundsWithC m r p) [.fz (intsT L), .fz (.tuple (seen.map pairD)), .no, .no, .no, .no]) _ _
  simp [roundsWithC, h1, h2, hl0, hl2]
  rw [← hN]
  simp [List.all_map, Function.comp_def]
end
end Iv
set_option maxRecDepth 100000
set_option maxHeartbeats 4000000
/-! Q3: the law k17. -/
namespace Iv
open PySem PySem.Spec PyProof.Rows L2
def law17C_b0_3 (i_partners : Nat) : S := (.seq (.ife (.ort (.tr (.cmp .NotEq (.call i_partners (.cons (.v 3) (.cons (.v 9) (.cons (.v 5) (.cons (.k (.int 1)) .nil))))) (.lst (.cons (.v 10) .nil)))) (.tr (.cmp .NotEq (.call i_partners (.cons (.v 3) (.cons (.v 10) (.cons (.v 5) (.cons (.k (.int 1)) .nil))))) (.lst (.cons (.v 9) .nil))))) (.seq (.ret (.k (.bool false))) .nil) .nil) .nil)
def law17C_b0_2 (i_partners i_turn_number : Nat) : S := (.seq (.ife (.tr (.cmp .NotEq (.op .Mod (.op .Add (.op .Add (.op .Add (.call i_turn_number (.cons (.v 3) (.cons (.v 9) .nil))) (.call i_turn_number (.cons (.v 3) (.cons (.v 10) .nil)))) (.k (.int 1))) (.v 5)) (.v 4)) (.k (.int 0)))) (.seq (.ret (.k (.bool false))) .nil) .nil) (law17C_b0_3 i_partners))
def law17C_b0_1 (i_meeting i_partners i_turn_number : Nat) : S := (.seq (.ife (.ort (.tr (.cmp .NotEq (.call i_meeting (.cons (.v 3) (.cons (.v 9) (.cons (.v 10) .nil)))) (.op .Mod (.v 5) (.v 4)))) (.tr (.cmp .NotEq (.call i_meeting (.cons (.v 3) (.cons (.v 10) (.cons (.v 9) .nil)))) (.op .Mod (.v 5) (.v 4))))) (.seq (.ret (.k (.bool false))) .nil) .nil) (law17C_b0_2 i_partners i_turn_number))
def law17C_b0 (i_meeting i_partners i_turn_number : Nat) : S := (.seq (.ife (.ort (.tr (.cmp .NotEq (.me .index (.v 8) (.cons (.v 10) .nil)) (.op .Add (.me .index (.v 8) (.cons (.v 9) .nil)) (.k (.int 1))))) (.tr (.cmp .NotEq (.op .Mod (.me .index (.v 8) (.cons (.v 9) .nil)) (.k (.int 2))) (.op .Mod (.v 5) (.k (.int 2)))))) (.seq (.ret (.k (.bool false))) .nil) .nil) (law17C_b0_1 i_meeting i_partners i_turn_number))
def law17C_b1_1 : S := (.seq (.ife (.tr (.cmp .NotIn (.me .index (.v 8) (.cons (.v 9) .nil)) (.tup (.cons (.k (.int 0)) (.cons (.op .Sub (.v 4) (.k (.int 1))) .nil))))) (.seq (.ret (.k (.bool false))) .nil) .nil) .nil)
def law17C_b1 (i_meeting i_partners : Nat) : S := (.seq (.ife (.ort (.tr (.cmp .NotEq (.call i_partners (.cons (.v 3) (.cons (.v 9) (.cons (.v 5) (.cons (.k (.int 1)) .nil))))) (.lst (.cons (.v 9) .nil)))) (.tr (.cmp .NotEq (.call i_meeting (.cons (.v 3) (.cons (.v 9) (.cons (.v 9) .nil)))) (.op .Mod (.v 5) (.v 4))))) (.seq (.ret (.k (.bool false))) .nil) .nil) law17C_b1_1)
def law17C_l0 : C := (.lc [9] (.tup (.cons (.v 9) (.cons (.v 9) .nil))) (.n 9) .seq (.cons (.v 7) .nil) (.k (.bool true)))
def law17C_b2_13 (i_times_met : Nat) : S := (.seq (.ife (.tr (.cmp .NotEq (.call i_times_met (.cons (.v 3) (.cons (.v 9) (.cons (.v 10) (.cons (.op .Add (.v 12) (.k (.int 1))) .nil))))) (.op .Add (.call i_times_met (.cons (.v 3) (.cons (.v 9) (.cons (.v 10) (.cons (.v 12) .nil))))) (.v 13)))) (.seq (.ret (.k (.bool false))) .nil) .nil) .nil)
def law17C_b2_12 (i_meeting i_times_met : Nat) : S := (.seq (.asg 13 (.bi .int (.cons (.cmp .Eq (.op .Mod (.op .Sub (.v 12) (.call i_meeting (.cons (.v 3) (.cons (.v 9) (.cons (.v 10) .nil))))) (.v 4)) (.k (.int 0))) .nil))) (law17C_b2_13 i_times_met))
def law17C_b2_11 (i_law_take i_meeting i_times_met : Nat) : S := (.seq (.asg 12 (.call i_law_take (.cons (.v 2) (.cons (.op .Pow (.k (.int 10)) (.k (.int 12))) .nil)))) (law17C_b2_12 i_meeting i_times_met))
def law17C_b2_10 (i_law_of i_law_take i_meeting i_times_met : Nat) : S := (.seq (.par [9, 10] (.cons (.call i_law_of (.cons (.v 2) (.cons (.v 3) .nil))) (.cons (.call i_law_of (.cons (.v 2) (.cons (.v 3) .nil))) .nil))) (law17C_b2_11 i_law_take i_meeting i_times_met))
def law17C_b2_9 (i_law_of i_law_take i_meeting i_rounds_with i_times_met : Nat) : S := (.seq (.ife (.ort (.tr (.cmp .NotEq (.call i_rounds_with (.cons (.v 3) (.cons (.v 11) .nil))) (.lst (.cons (.op .Mod (.v 5) (.v 4)) .nil)))) (.tr (.cmp .NotEq (.op .Add (.op .Mult (.k (.int 2)) (.bi .len (.cons (.v 6) .nil))) (.bi .len (.cons (.v 7) .nil))) (.v 4)))) (.seq (.ret (.k (.bool false))) .nil) .nil) (law17C_b2_10 i_law_of i_law_take i_meeting i_times_met))
def law17C_b2_8 (i_law_of i_law_take i_meeting i_rounds_with i_times_met : Nat) : S := (.seq (.asg 11 (.op .Add (.bi .tuple (.cons (.v 6) .nil)) (.bi .tuple (.cons law17C_l0 .nil)))) (law17C_b2_9 i_law_of i_law_take i_meeting i_rounds_with i_times_met))
def law17C_b2_7 (i_law_of i_law_take i_meeting i_partners i_rounds_with i_times_met : Nat) : S := (.seq (.for (.n 9) .seq (.cons (.v 7) .nil) (law17C_b1 i_meeting i_partners)) (law17C_b2_8 i_law_of i_law_take i_meeting i_rounds_with i_times_met))
def law17C_b2_6 (i_law_of i_law_take i_meeting i_partners i_rounds_with i_times_met i_turn_number : Nat) : S := (.seq (.for (.t [9, 10]) .seq (.cons (.v 6) .nil) (law17C_b0 i_meeting i_partners i_turn_number)) (law17C_b2_7 i_law_of i_law_take i_meeting i_partners i_rounds_with i_times_met))
def law17C_b2_5 (i_law_of i_law_take i_line_after i_meeting i_partners i_rounds_with i_times_met i_turn_number : Nat) : S := (.seq (.asg 8 (.call i_line_after (.cons (.v 3) (.cons (.v 5) .nil)))) (law17C_b2_6 i_law_of i_law_take i_meeting i_partners i_rounds_with i_times_met i_turn_number))
def law17C_b2_4 (i_law_of i_law_take i_line_after i_meeting i_partners i_rounds_with i_times_met i_turn_number : Nat) : S := (.seq (.ife (.ort (.tr (.cmp .NotEq (.bi .len (.cons (.v 7) .nil)) (.ife (.tr (.cmp .Eq (.op .Mod (.v 4) (.k (.int 2))) (.k (.int 1)))) (.k (.int 1)) (.op .Mult (.k (.int 2)) (.op .Mod (.v 5) (.k (.int 2))))))) (.tr (.cmp .NotEq (.v 7) (.bi .sorted (.cons (.v 7) .nil))))) (.seq (.ret (.k (.bool false))) .nil) .nil) (law17C_b2_5 i_law_of i_law_take i_line_after i_meeting i_partners i_rounds_with i_times_met i_turn_number))
def law17C_b2_3 (i_law_of i_law_take i_line_after i_meeting i_pairs_in i_partners i_rounds_with i_times_met i_turn_number i_waiting : Nat) : S := (.seq (.par [6, 7] (.cons (.call i_pairs_in (.cons (.v 3) (.cons (.v 5) .nil))) (.cons (.call i_waiting (.cons (.v 3) (.cons (.v 5) .nil))) .nil))) (law17C_b2_4 i_law_of i_law_take i_line_after i_meeting i_partners i_rounds_with i_times_met i_turn_number))
def law17C_b2_2 (i_law_of i_law_take i_line_after i_meeting i_pairs_in i_partners i_rounds_with i_times_met i_turn_number i_waiting : Nat) : S := (.seq (.par [4, 5] (.cons (.bi .len (.cons (.v 3) .nil)) (.cons (.call i_law_of (.cons (.v 2) (.cons (.lst (.cons (.call i_law_take (.cons (.v 2) (.cons (.k (.int 60)) .nil))) (.cons (.call i_law_take (.cons (.v 2) (.cons (.op .Pow (.k (.int 10)) (.k (.int 12))) .nil))) .nil))) .nil))) .nil))) (law17C_b2_3 i_law_of i_law_take i_line_after i_meeting i_pairs_in i_partners i_rounds_with i_times_met i_turn_number i_waiting))
def law17C_b2_1 (i_law_line i_law_of i_law_take i_line_after i_meeting i_pairs_in i_partners i_rounds_with i_times_met i_turn_number i_waiting : Nat) : S := (.seq (.asg 3 (.call i_law_line (.cons (.v 2) (.cons (.k (.int 24)) .nil)))) (law17C_b2_2 i_law_of i_law_take i_line_after i_meeting i_pairs_in i_partners i_rounds_with i_times_met i_turn_number i_waiting))
def law17C_b2 (i_law_bag i_law_line i_law_of i_law_take i_line_after i_meeting i_pairs_in i_partners i_rounds_with i_times_met i_turn_number i_waiting : Nat) : S := (.seq (.asg 2 (.call i_law_bag (.cons (.v 0) (.cons (.v 1) .nil)))) (law17C_b2_1 i_law_line i_law_of i_law_take i_line_after i_meeting i_pairs_in i_partners i_rounds_with i_times_met i_turn_number i_waiting))
def law17C_1 (i_pairs_in i_waiting : Nat) : S := (.seq (.ret (.andv (.cmp .Eq (.call i_waiting (.cons (.tup (.cons (.k (.int 5)) (.cons (.k (.int 6)) (.cons (.k (.int 7)) .nil)))) (.cons (.k (.int 0)) .nil))) (.lst (.cons (.k (.int 7)) .nil))) (.andv (.cmp .Eq (.call i_waiting (.cons (.tup (.cons (.k (.int 5)) (.cons (.k (.int 6)) (.cons (.k (.int 7)) .nil)))) (.cons (.k (.int 1)) .nil))) (.lst (.cons (.k (.int 6)) .nil))) (.cmp .Eq (.call i_pairs_in (.cons (.tup (.cons (.k (.int 5)) (.cons (.k (.int 6)) .nil))) (.cons (.k (.int 1)) .nil))) (.lst .nil))))) .nil)
def law17C (i_law_bag i_law_line i_law_of i_law_take i_line_after i_meeting i_pairs_in i_partners i_rounds_with i_times_met i_turn_number i_waiting : Nat) : S := (.seq (.for (.n 1) .r1 (.cons (.op .Add (.bi .min2 (.cons (.bi .len (.cons (.v 0) .nil)) (.cons (.k (.int 8)) .nil))) (.k (.int 2))) .nil) (law17C_b2 i_law_bag i_law_line i_law_of i_law_take i_line_after i_meeting i_pairs_in i_partners i_rounds_with i_times_met i_turn_number i_waiting)) (law17C_1 i_pairs_in i_waiting))
structure K17 (cx : Ctx) (bg ln of tk la me pi pa ro ti tn wa : Nat) : Prop where
  bg : ∃ f, cx.fs[bg]? = some f ∧ BagF f
  ln : ∃ f, cx.fs[ln]? = some f ∧ LineOkF f
  of : ∃ f, cx.fs[of]? = some f ∧ OfG f
  tk : ∃ f, cx.fs[tk]? = some f ∧ TakeOk f
  la : ∃ f, cx.fs[la]? = some f ∧ AfterF f
  me : ∃ f, cx.fs[me]? = some f ∧ MeetingF f
  pi : ∃ f, cx.fs[pi]? = some f ∧ PairsInF f
  pa : ∃ f, cx.fs[pa]? = some f ∧ PartnersF f
  ro : ∃ f, cx.fs[ro]? = some f ∧ RoundsF f
  ti : ∃ f, cx.fs[ti]? = some f ∧ TimesF f
  tn : ∃ f, cx.fs[tn]? = some f ∧ TurnNumF f
  wa : ∃ f, cx.fs[wa]? = some f ∧ WaitF f
/-- numbers sorted -/
theorem sortD_ints (l : List Int) : ∃ ws : List Int, sortD (l.map .int) = ws.map .int ∧ List.Perm ws l ∧ sortD (ws.map .int) = ws.map .int := by
  have hp : List.Perm (sortD (l.map .int)) (l.map .int) := List.mergeSort_perm _ _
  have hi : ∀ d ∈ sortD (l.map .int), d = .int ((intOf d).getD 0) := fun d hd => by
    obtain ⟨i, _, rfl⟩ := List.mem_map.mp (hp.mem_iff.mp hd)
    rfl
  have e : sortD (l.map .int) = ((sortD (l.map .int)).map fun d => (intOf d).getD 0).map .int := by
    rw [List.map_map]
    conv => lhs; rw [← List.map_id (sortD (l.map .int))]
    exact List.map_congr_left fun d hd => hi d hd
  have q : List.Perm ((sortD (l.map .int)).map fun d => (intOf d).getD 0) l := by
    have := hp.map (fun d => (intOf d).getD 0)
    rw [List.map_map] at this
    have e2 : l.map ((fun d => (intOf d).getD 0) ∘ PyData.int) = l := by
      conv => rhs; rw [← List.map_id l]
      rfl
    rwa [e2] at this
  refine ⟨_, e, q, ?_⟩
  rw [sort_ints_perm q]
  exact e
theorem fSortedL {l ws : List Int} (h : sortD (l.map .int) = ws.map .int) (hl : l.length ≤ big) : fSorted (intsL l) = some (.f (intsL ws)) := by
  unfold fSorted intsL
  simp only [itemsOf, seqOf, Option.bind_some, sorts_ints l hl, h]
theorem waitL_count {M : List Int} {t : Nat} (h : 2 ≤ M.length) : ((waitL M t).length : Int) = if (M.length : Int) % 2 = 1 then 1 else 2 * ((t : Int) % 2) := by
  unfold waitL
  split <;> split <;> split <;> simp <;> omega

def B17 (ns L : List Int) (far : Nat) (a s : Int) (ρ : Env) : Prop := ρ.length = 14 ∧ get ρ 0 = .fz (scrD ns) ∧ get ρ 2 = .ow (bagD a s) ∧ get ρ 3 = .fz (intsT L) ∧ get ρ 4 = .fz (.int L.length) ∧ get ρ 5 = .fz (.int far) ∧ get ρ 8 = .fz (intsT (lineAt L far))
theorem neL1 (a : List Int) (y : Int) : cmpop .NotEq (intsL a) (.list [.int y]) = some (!decide (a = [y])) := neL a [y]
theorem notInT2 (x a b : Int) : cmpop .NotIn (.int x) (.tuple [.int a, .int b]) = some (!decide (x ∈ [a, b])) := notInT [a, b] x
/-- one pair -/
theorem pair17 {cx : Ctx} {me pa tn : Nat} {fm fp ft : FI} (hm : cx.fs[me]? = some fm) (Hm : MeetingF fm) (hp : cx.fs[pa]? = some fp) (Hp : PartnersF fp) (ht : cx.fs[tn]? = some ft) (Ht : TurnNumF ft) {ns L : List Int} {far : Nat} {a s : Int} (lok : LineOk L) (hfar : (far : Int) ≤ 1000000000000) {x y : Int} (hxy : (x, y) ∈ pairsL (lineAt L far) far) {T : D → Bool → Env → Prop} (P : Env → Prop) {ρ : Env} (h : B17 ns L far a s ρ) (h9 : get ρ 9 = .fz (.int x)) (h10 : get ρ 10 = .fz (.int y)) (hPρ : P ρ) : Fx (xec cx (law17C_b0 me pa tn) ρ) (fun ρ => B17 ns L far a s ρ ∧ P ρ) T := by
  obtain ⟨hl, g0, g2, g3, g4, g5, g8⟩ := id h
  have hxy' : (x, y) ∈ pairsL (lineF L 0 far) (0 + far) := by rw [lineF_zero, Nat.zero_add]; exact hxy
  obtain ⟨mx, my, mt, ix, par⟩ := pair_meet lok.nd hxy'
  rw [lineF_zero] at ix par
  have lo := lok.lo
  have hi := lok.hi
  have hL : (0 : Int) < L.length := by omega
  have ax : x ∈ lineAt L far := by rw [← lineF_zero]; exact (lineF_perm 0 far).mem_iff.mpr mx
  have ay : y ∈ lineAt L far := by rw [← lineF_zero]; exact (lineF_perm 0 far).mem_iff.mpr my
  have mt' : meetL L 0 y x = (far : Int) % L.length := by rw [meetL_comm]; exact mt
  have hme : ∀ x y ρ, x ∈ L → y ∈ L → callF cx me [.d (intsT L), .d (.int x), .d (.int y)] ρ = .ok (.d (.int (meetL L 0 x y)), ρ) := fun x y ρ hx hy => callF_ok (fr := false) (ρ2 := ρ) hm Hm.1 rfl (Hm.2 L x y lok hx hy)
  have htn : ∀ x ρ, x ∈ L → callF cx tn [.d (intsT L), .d (.int x)] ρ = .ok (.d (.int (turnN L.length (L.idxOf x))), ρ) := fun x ρ hx => callF_ok (fr := false) (ρ2 := ρ) ht Ht.1 rfl (Ht.2 L x lok hx)
  have hpa : ∀ x y ρ, x ∈ L → y ∈ L → meetL L 0 x y = (far : Int) % L.length → callF cx pa [.d (intsT L), .d (.int x), .d (.int far), .d (.int 1)] ρ = .ok (.f (intsL [y]), ρ) := fun x y ρ hx hy e => by
    have := callF_ok (fr := true) (ρ2 := ρ) (rs := [.d (intsT L), .d (.int x), .d (.int far), .d (.int 1)]) (ρ := ρ) hp Hp.1 rfl (Hp.2 L x far 1 lok hx (by omega) hfar (by decide))
    rw [this]
    have e2 : partsL L x far 1 = [y] := by
      show [partL L x (far + 0)] = [y]
      rw [Int.add_zero, partL_eq hx hy e]
    rw [e2]
    rfl
  have tsum : (turnN L.length (L.idxOf x) + turnN L.length (L.idxOf y) + 1 + far) % (L.length : Int) = 0 := by
    unfold meetL at mt
    rw [meet_turn, Int.emod_eq_emod_iff_emod_sub_eq_zero] at mt
    have e : -1 - turnN L.length (L.idxOf x) - turnN L.length (L.idxOf y) - (far : Int) = -(turnN L.length (L.idxOf x) + turnN L.length (L.idxOf y) + 1 + far) := by omega
    rw [e] at mt
    exact Int.emod_eq_zero_of_dvd (Int.dvd_neg.mp (Int.dvd_of_emod_eq_zero mt))
  have par' : (((lineAt L far).idxOf x : Nat) : Int) % 2 = (far : Int) % 2 := by omega
  have ix' : (((lineAt L far).idxOf y : Nat) : Int) = ((lineAt L far).idxOf x : Nat) + 1 := by omega
  simp [law17C_b0, law17C_b0_1, law17C_b0_2, law17C_b0_3, hl, g3, g4, g5, g8, h9, h10, me_ixT ax, me_ixT ay, neI, modP hL, modP (show (0 : Int) < 2 by decide), addI, par', ix, hme _ _ _ mx my, hme _ _ _ my mx, mt, mt', htn _ _ mx, htn _ _ my, tsum, hpa _ _ _ mx my mt, hpa _ _ _ my mx mt', neL1]
  exact ⟨h, hPρ⟩
/-- one who waits -/
theorem wait17 {cx : Ctx} {me pa : Nat} {fm fp : FI} (hm : cx.fs[me]? = some fm) (Hm : MeetingF fm) (hp : cx.fs[pa]? = some fp) (Hp : PartnersF fp) {ns L : List Int} {far : Nat} {a s : Int} (lok : LineOk L) (hfar : (far : Int) ≤ 1000000000000) {x : Int} (hx : x ∈ waitL (lineAt L far) far) {T : D → Bool → Env → Prop} (P : Env → Prop)
    {ρ : Env} (h : B17 ns L far a s ρ) (h9 : get ρ 9 = .fz (.int x)) (hPρ : P ρ) : Fx (xec cx (law17C_b1 me pa) ρ) (fun ρ => B17 ns L far a s ρ ∧ P ρ) T := by
  obtain ⟨hl, g0, g2, g3, g4, g5, g8⟩ := id h
  have lo := lok.lo
  have hi := lok.hi
  have hx' : x ∈ waitL (lineF L 0 far) (0 + far) := by rw [lineF_zero, Nat.zero_add]; exact hx
  obtain ⟨mx, mt, ix⟩ := wait_meet lok.nd (by omega) hx'
  rw [lineF_zero] at ix
  have hL : (0 : Int) < L.length := by omega
  have ax : x ∈ lineAt L far := by rw [← lineF_zero]; exact (lineF_perm 0 far).mem_iff.mpr mx
  have hme : callF cx me [.d (intsT L), .d (.int x), .d (.int x)] ρ = .ok (.d (.int (meetL L 0 x x)), ρ) := callF_ok (fr := false) (ρ2 := ρ) hm Hm.1 rfl (Hm.2 L x x lok mx mx)
  have hpa : callF cx pa [.d (intsT L), .d (.int x), .d (.int far), .d (.int 1)] ρ = .ok (.f (intsL [x]), ρ) := by
    have := callF_ok (fr := true) (ρ2 := ρ) (rs := [.d (intsT L), .d (.int x), .d (.int far), .d (.int 1)]) (ρ := ρ) hp Hp.1 rfl (Hp.2 L x far 1 lok mx (by omega) hfar (by decide))
    rw [this]
    have e2 : partsL L x far 1 = [x] := by
      show [partL L x (far + 0)] = [x]
      rw [Int.add_zero, partL_eq mx mx mt]
    rw [e2]
    rfl
  rcases ix with e | e
  · simp [law17C_b1, law17C_b1_1, hl, g3, g4, g5, g8, h9, hpa, neL1, hme, mt, modP hL, neI, me_ixT ax, subI, notInT2, e]
    exact ⟨h, hPρ⟩
  · have e2 : (((lineAt L far).idxOf x : Nat) : Int) = (L.length : Int) - 1 := by omega
    simp [law17C_b1, law17C_b1_1, hl, g3, g4, g5, g8, h9, hpa, neL1, hme, mt, modP hL, neI, me_ixT ax, subI, notInT2, e2]
    exact ⟨h, hPρ⟩
theorem P17_set {ns L : List Int} {far : Nat} {a s : Int} {ρ : Env} {i : Nat} {v : Slot} (h : B17 ns L far a s ρ) (h1 : 9 ≤ i) : B17 ns L far a s (ρ.set i v) := by
  obtain ⟨hl, g0, g2, g3, g4, g5, g8⟩ := h
  refine ⟨by simp [hl], ?_, ?_, ?_, ?_, ?_, ?_⟩
  all_goals (rw [get_set_ne (by omega)]; assumption)
theorem P17_set' {ns L : List Int} {far : Nat} {a s : Int} {ρ : Env} {i : Nat} {v : Slot} (h : B17 ns L far a s ρ) (h1 : 6 ≤ i) (h2 : i < 8) : B17 ns L far a s (ρ.set i v) := by
  obtain ⟨hl, g0, g2, g3, g4, g5, g8⟩ := h
  refine ⟨by simp [hl], ?_, ?_, ?_, ?_, ?_, ?_⟩
  all_goals (rw [get_set_ne (by omega)]; assumption)
def Q17 (ns : List Int) (ρ : Env) : Prop := ρ.length = 14 ∧ get ρ 0 = .fz (scrD ns)
theorem intL_of {l : List D} {d : D} {xs : List Int} (h : l = xs.map .int) (hd : d ∈ l) : ∃ x, x ∈ xs ∧ d = .int x := by
  subst h
  obtain ⟨x, hx, rfl⟩ := List.mem_map.mp hd
  exact ⟨x, hx, rfl⟩
theorem filt_one {n : Nat} {N : List Int} {r : Int} (h0 : 0 ≤ r) (h1 : r < n) (hN : ∀ j ∈ N, j = r) (hne : N ≠ []) : (((List.range n).map fun (k : Nat) => (k : Int)).filter fun k => N.all fun j => decide (j = k)) = [r] := by
  obtain ⟨j, js, rfl⟩ := List.exists_cons_of_ne_nil hne
  have e : (fun k : Int => (j :: js).all fun j => decide (j = k)) = fun k => decide (k = r) := by
    funext k
    by_cases hk : k = r
    · subst hk
      rw [decide_eq_true rfl, List.all_eq_true]
      intro x hx
      exact decide_eq_true (hN x hx)
    · rw [decide_eq_false hk, List.all_cons, hN j List.mem_cons_self, decide_eq_false (fun e => hk e.symm)]
      rfl
  rw [e]
  obtain ⟨m, rfl⟩ : ∃ m : Nat, r = m := ⟨r.toNat, by omega⟩
  rw [List.filter_map]
  have e2 : ((fun k : Int => decide (k = (m : Int))) ∘ fun (k : Nat) => (k : Int)) = fun k => decide (k = m) := by
    funext k
    show decide ((k : Int) = (m : Int)) = decide (k = m)
    by_cases h : k = m
    · rw [decide_eq_true h, decide_eq_true (by omega)]
    · rw [decide_eq_false h, decide_eq_false (by omega)]
  rw [e2]
  have : ∀ n : Nat, m < n → (List.range n).filter (fun k => decide (k = m)) = [m] := by
    intro n
    induction n with
    | zero => intro h; omega
    | succ n ih =>
      intro h
      rw [List.range_succ, List.filter_append]
      by_cases hm : m < n
      · rw [ih hm]
        have : ¬ n = m := by omega
        simp [this]
      · have e : n = m := by omega
        subst e
        have : (List.range n).filter (fun k => decide (k = n)) = [] := by
          rw [List.filter_eq_nil_iff]
          intro x hx
          have := List.mem_range.mp hx
          simp
          omega
        rw [this]
        simp
  rw [this n (by omega)]
  rfl
theorem turn17 {cx : Ctx} {bg ln of tk la me pi pa ro ti tn wa : Nat} (K : K17 cx bg ln of tk la me pi pa ro ti tn wa) {ns : List Int} {k : Nat} (hk : k ≤ 100) {ρ : Env} {T : D → Bool → Env → Prop} (hl : ρ.length = 14) (g0 : get ρ 0 = .fz (scrD ns)) (g1 : get ρ 1 = .fz (.int k)) :
    Fx (xec cx (law17C_b2 bg ln of tk la me pi pa ro ti tn wa) ρ) (Q17 ns) T := by
  obtain ⟨fb, hb, Hb⟩ := K.bg
  obtain ⟨fl, hln, Hln⟩ := K.ln
  obtain ⟨fo, hof, Hof⟩ := K.of
  obtain ⟨ft, htk, Htk⟩ := K.tk
  obtain ⟨fa, hla, Hla⟩ := K.la
  obtain ⟨fm, hme, Hme⟩ := K.me
  obtain ⟨fi, hpi, Hpi⟩ := K.pi
  obtain ⟨fp, hpa, Hpa⟩ := K.pa
  obtain ⟨fr, hro, Hro⟩ := K.ro
  obtain ⟨fe, hti, Hti⟩ := K.ti
  obtain ⟨fn, htn, Htn⟩ := K.tn
  obtain ⟨fw, hwa, Hwa⟩ := K.wa
  obtain ⟨a, s, hbag, ok⟩ := callF_bag hb Hb ns hk
  obtain ⟨L, a1, s1, hL, ok1, lok, _⟩ := callF_line hln Hln (ρ := ρ.set 2 (.ow (bagD a s))) (i := 2) (m := 24) (by simp [hl]) ok (by omega) (by omega)
  simp at hL
  simp [law17C_b2, law17C_b2_1, g0, g1, hbag, hl, hL]
  refine Fx_gen (P := fun ρ => ρ.length = 14 ∧ get ρ 0 = .fz (scrD ns) ∧ get ρ 2 = .ow (bagD a1 s1) ∧ get ρ 3 = .fz (intsT L)) ⟨by simp [hl], by simp [g0], by simp [hl], by simp [hl]⟩ ?_
  clear hL hl g0 g1 hbag
  rintro ρ ⟨hl, g0, g2, g3⟩
  have lo := lok.lo
  have hi := lok.hi
  -- a far round
  obtain ⟨r1, a2, s2, h1, h1l, ok2⟩ := callF_takeN htk Htk (ρ := ρ) (i := 2) 60 g2 ok1 (by decide) (by decide)
  obtain ⟨r2, a3, s3, h2, h2l, ok3⟩ := callF_takeN htk Htk (ρ := ρ.set 2 (.ow (bagD a2 s2))) (i := 2) 1000000000000 (by simp [hl]) ok2 (by decide) (by decide)
  obtain ⟨x, a4, s4, h3, hx, ok4⟩ := callF_of hof Hof (ρ := (ρ.set 2 (.ow (bagD a2 s2))).set 2 (.ow (bagD a3 s3))) (ρ2 := (ρ.set 2 (.ow (bagD a2 s2))).set 2 (.ow (bagD a3 s3))) (i := 2) (r := .f (.list [.int r1, .int r2])) (xs := [.int r1, .int r2]) rfl rfl (by simp [hl]) ok3 (by simp) (by simp)
  obtain ⟨far, rfl, hfar⟩ : ∃ far : Nat, x = .int far ∧ (far : Int) ≤ 999999999999 := by
    rcases List.mem_cons.mp hx with e | hx
    · exact ⟨r1, e, by omega⟩
    · rw [List.mem_singleton] at hx
      exact ⟨r2, hx, by omega⟩
  simp at h1 h2 h3
  simp [law17C_b2_2, hl, g2, g3, lenT, h1, h2, h3, pow1012]
  refine Fx_gen (P := fun ρ => ρ.length = 14 ∧ get ρ 0 = .fz (scrD ns) ∧ get ρ 2 = .ow (bagD a4 s4) ∧ get ρ 3 = .fz (intsT L) ∧ get ρ 4 = .fz (.int L.length) ∧ get ρ 5 = .fz (.int far)) ⟨by simp [hl], by simp [g0], by simp [hl], by simp [hl, g3], by simp [hl], by simp [hl]⟩ ?_
  clear h1 h2 h3 hl g0 g2 g3
  rintro ρ ⟨hl, g0, g2, g3, g4, g5⟩
  -- its pairs, those who wait
  have hPI : ∀ ρ, callF cx pi [.d (intsT L), .d (.int far)] ρ = .ok (.f (.list ((pairsL (lineAt L far) far).map pairD)), ρ) := fun ρ => callF_ok (fr := true) (ρ2 := ρ) hpi Hpi.1 rfl (Hpi.2 L far lok (by show (far : Int) ≤ 1000000000000; omega))
  obtain ⟨ws, hw1, hw2, hw3⟩ := sortD_ints (waitL (lineAt L far) far)
  have hWA : ∀ ρ, callF cx wa [.d (intsT L), .d (.int far)] ρ = .ok (.f (intsL ws), ρ) := fun ρ => by
    have := callF_ok (fr := true) (ρ2 := ρ) (rs := [.d (intsT L), .d (.int far)]) (ρ := ρ) hwa Hwa.1 rfl (Hwa.2 L far lok (by show (far : Int) ≤ 1000000000000; omega))
    rw [this, hw1]
    rfl
  have hwl : (ws.length : Int) = if (L.length : Int) % 2 = 1 then 1 else 2 * ((far : Int) % 2) := by
    rw [hw2.length_eq, waitL_count (by rw [lineAt_len]; exact lo), lineAt_len]
  have hwl2 : ws.length ≤ 2 := by rw [hw2.length_eq]; exact waitL_len
  have hso : fSorted (intsL ws) = some (.f (intsL ws)) := fSortedL hw3 (le_bigS (by omega))
  have hall : nPairs L.length far * 2 + ws.length = L.length := by
    have := waitL_length (L := lineAt L far) (t := far) (by rw [lineAt_len]; exact lo)
    rw [lineAt_len] at this
    rw [hw2.length_eq]
    exact this
  have hpl : (pairsL (lineAt L far) far).length = nPairs L.length far := by
    unfold pairsL
    rw [List.length_map, List.length_range, lineAt_len]
  generalize hPs : pairsL (lineAt L far) far = Ps at *
  have hAF : ∀ ρ, callF cx la [.d (intsT L), .d (.int far)] ρ = .ok (.d (intsT (lineAt L far)), ρ) := fun ρ => callF_ok (fr := false) (ρ2 := ρ) hla Hla.1 rfl (Hla.2 L far lok (by show (far : Int) ≤ 1000000000000; omega))
  have hL : (0 : Int) < L.length := by omega
  have hm2 : Sm (2 : Int) := by show (2 : Nat) ≤ lim; have := limN; omega
  have hm3 : Sm ((far : Int) % 2) := by show ((far : Int) % 2).natAbs ≤ lim; have := limN; omega
  have b4 : xec cx (law17C_b2_4 of tk la me pa ro ti tn) (((ρ.set 6 (.ow (.list (Ps.map pairD)))).set 7 (.ow (intsL ws)))) = xec cx (law17C_b2_5 of tk la me pa ro ti tn) ((ρ.set 6 (.ow (.list (Ps.map pairD)))).set 7 (.ow (intsL ws))) := by
    by_cases hodd : (L.length : Int) % 2 = 1
    · rw [if_pos hodd] at hwl
      simp [law17C_b2_4, hl, g4, g5, lenL, hwl, modP, eqI, hodd, neI, hso, neL]
    · rw [if_neg hodd] at hwl
      simp [law17C_b2_4, hl, g4, g5, lenL, hwl, modP, eqI, hodd, neI, hso, neL, mulS hm2 hm3]
  simp [law17C_b2_3, hl, g3, g5, hPI, hWA]
  rw [b4]
  simp [law17C_b2_5, hl, g3, g5, hAF]
  refine Fx_gen (P := fun ρ => B17 ns L far a4 s4 ρ ∧ get ρ 6 = .ow (.list (Ps.map pairD)) ∧ get ρ 7 = .ow (intsL ws)) ⟨⟨by simp [hl], by simp [g0], by simp [g2], by simp [g3], by simp [g4], by simp [g5], by simp [hl]⟩, by simp [hl], by simp [hl]⟩ ?_
  clear b4 hl g0 g2 g3 g4 g5
  rintro ρ ⟨hB, g6, g7⟩
  have hl := hB.1
  simp [law17C_b2_6, g6, hl, walkL]
  simp only [Fx_seqX]
  refine Fx_for (fun _ ρ => B17 ns L far a4 s4 ρ ∧ (get ρ 6 = .fz (.list (Ps.map pairD)) ∧ get ρ 7 = .ow (intsL ws))) ⟨P17_set' hB (by decide) (by decide), by simp [hl], by simp [g7]⟩ (fun i x ρ hx h => ?_) fun ρ h => ?_
  · rw [List.getElem?_map] at hx
    obtain ⟨⟨u, v⟩, huv, rfl⟩ := Option.map_eq_some_iff.mp hx
    have hmem : (u, v) ∈ pairsL (lineAt L far) far := by rw [hPs]; exact List.mem_of_getElem? huv
    obtain ⟨hB, g6, g7⟩ := h
    have hl := hB.1
    refine ⟨_, rfl, ?_⟩
    exact pair17 hme Hme hpa Hpa htn Htn lok (by omega) hmem (fun ρ => get ρ 6 = .fz (.list (Ps.map pairD)) ∧ get ρ 7 = .ow (intsL ws)) (P17_set (P17_set hB (by decide)) (by decide)) (by simp [hl]) (by simp [hl]) ⟨by simp [g6], by simp [g7]⟩
  · obtain ⟨hB, g6, g7⟩ := h
    have hl := hB.1
    simp [law17C_b2_7, g7, hl, walkIL]
    simp only [Fx_seqX]
    refine Fx_for (fun _ ρ => B17 ns L far a4 s4 ρ ∧ (get ρ 6 = .fz (.list (Ps.map pairD)) ∧ get ρ 7 = .fz (intsL ws))) ⟨P17_set' hB (by decide) (by decide), by simp [g6], by simp [hl]⟩ (fun i x ρ hx h => ?_) fun ρ h => ?_
    · rw [List.getElem?_map] at hx
      obtain ⟨u, hu, rfl⟩ := Option.map_eq_some_iff.mp hx
      have hmem : u ∈ waitL (lineAt L far) far := hw2.mem_iff.mp (List.mem_of_getElem? hu)
      obtain ⟨hB, g6, g7⟩ := h
      have hl := hB.1
      refine ⟨_, rfl, ?_⟩
      exact wait17 hme Hme hpa Hpa lok (by omega) hmem (fun ρ => get ρ 6 = .fz (.list (Ps.map pairD)) ∧ get ρ 7 = .fz (intsL ws)) (P17_set hB (by decide)) (by simp [hl]) ⟨by simp [g6], by simp [g7]⟩
    · obtain ⟨⟨hl, g0, g2, g3, g4, g5, g8⟩, g6, g7⟩ := h
      -- all together
      have hlc : ev cx law17C_l0 ρ = .ok (.f (.list ((ws.map fun x => (x, x)).map pairD)), ρ) := by
        rw [List.map_map]
        exact ev_lcI (rs := [.d (intsL ws)]) (ds := [intsL ws]) (fun j => pairD (j, j)) (by simp [g7]) rfl rfl (le_bigS (by omega)) fun j hj ρ1 e1 => ⟨.d (pairD (j, j)), by subst e1; simp [hl, pairD], rfl⟩
      generalize hWW : (ws.map fun x => (x, x)) = WW at hlc
      have hwwl : WW.length = ws.length := by rw [← hWW, List.length_map]
      have hseen : ∀ p ∈ Ps ++ WW, (p.1 ∈ L ∧ p.2 ∈ L) ∧ meetL L 0 p.1 p.2 = (far : Int) % L.length := by
        intro p hp
        rcases List.mem_append.mp hp with hp | hp
        · rw [← hPs] at hp
          have hp' : (p.1, p.2) ∈ pairsL (lineF L 0 far) (0 + far) := by rw [lineF_zero, Nat.zero_add]; exact hp
          obtain ⟨m1, m2, m3, _⟩ := pair_meet lok.nd hp'
          exact ⟨⟨m1, m2⟩, m3⟩
        · rw [← hWW] at hp
          obtain ⟨x, hx, rfl⟩ := List.mem_map.mp hp
          have hx' : x ∈ waitL (lineF L 0 far) (0 + far) := by rw [lineF_zero, Nat.zero_add]; exact hw2.mem_iff.mp hx
          obtain ⟨m1, m2, _⟩ := wait_meet lok.nd (by omega) hx'
          exact ⟨⟨m1, m1⟩, m2⟩
      have hRO : callF cx ro [.d (intsT L), .d (.tuple (Ps.map pairD ++ WW.map pairD))] (ρ.set 11 (.fz (.tuple (Ps.map pairD ++ WW.map pairD)))) = .ok (.f (intsL [(far : Int) % L.length]), ρ.set 11 (.fz (.tuple (Ps.map pairD ++ WW.map pairD)))) := by
        have := Hro.2 L (Ps ++ WW) lok (fun p hp => (hseen p hp).1) (by rw [List.length_append]; omega)
        rw [show ((List.range L.length).map fun (k : Nat) => (k : Int)).filter (fun r => (Ps ++ WW).all fun p => decide (meetL L 0 p.1 p.2 = r)) = [(far : Int) % L.length] from ?_, List.map_append] at this
        · exact callF_ok (fr := true) (ρ2 := ρ.set 11 (.fz (.tuple (Ps.map pairD ++ WW.map pairD)))) hro Hro.1 rfl this
        · have e := filt_one (n := L.length) (N := (Ps ++ WW).map fun p => meetL L 0 p.1 p.2) (r := (far : Int) % L.length) (Int.emod_nonneg _ (by omega)) (Int.emod_lt_of_pos _ hL) (fun j hj => by
            obtain ⟨p, hp, rfl⟩ := List.mem_map.mp hj
            exact (hseen p hp).2) (fun e => by
            have := congrArg List.length e
            rw [List.length_map, List.length_append, List.length_nil] at this
            omega)
          rw [← e]
          simp [List.all_map, Function.comp_def]
      have hlen1 : Ps.length + WW.length ≤ big := le_bigS (by omega)
      have hsum : 2 * (Ps.length : Int) + (ws.length : Int) = L.length := by omega
      have hm4 : Sm ((Ps.length : Nat) : Int) := sm_nat (by have := limN; omega)
      obtain ⟨u, a5, s5, hu, mu, ok5⟩ := callF_of hof Hof (ρ := ρ.set 11 (.fz (.tuple (Ps.map pairD ++ WW.map pairD)))) (ρ2 := ρ.set 11 (.fz (.tuple (Ps.map pairD ++ WW.map pairD)))) (i := 2) (r := .d (intsT L)) (xs := L.map .int) rfl rfl (by simp [g2]) ok4 (by rw [List.length_map]; omega) (by rw [List.length_map]; omega)
      obtain ⟨x, hx, rfl⟩ := intL_of rfl mu
      obtain ⟨v, a6, s6, hv, mv, ok6⟩ := callF_of hof Hof (ρ := (ρ.set 11 (.fz (.tuple (Ps.map pairD ++ WW.map pairD)))).set 2 (.ow (bagD a5 s5))) (ρ2 := (ρ.set 11 (.fz (.tuple (Ps.map pairD ++ WW.map pairD)))).set 2 (.ow (bagD a5 s5))) (i := 2) (r := .d (intsT L)) (xs := L.map .int) rfl rfl (by simp [hl]) ok5 (by rw [List.length_map]; omega) (by rw [List.length_map]; omega)
      obtain ⟨y, hy, rfl⟩ := intL_of rfl mv
      clear mu mv
      simp at hv
      simp [law17C_b2_8, law17C_b2_9, law17C_b2_10, g2, g6, g7, g3, g4, g5, hl, tupleLL, hlc, addTT, hlen1, hRO, modP hL, neL1, lenLL, lenL, mulS hm2 hm4, addI, neI, hsum, hu, hv]
      refine Fx_gen (P := fun ρ => ρ.length = 14 ∧ get ρ 0 = .fz (scrD ns) ∧ get ρ 2 = .ow (bagD a6 s6) ∧ get ρ 3 = .fz (intsT L) ∧ get ρ 4 = .fz (.int L.length) ∧ get ρ 9 = .fz (.int x) ∧ get ρ 10 = .fz (.int y)) ⟨by simp [hl], by simp [g0], by simp [hl], by simp [g3], by simp [g4], by simp [hl], by simp [hl]⟩ ?_
      clear hu hv hRO hlc hl g0 g2 g3 g4 g5 g6 g7 g8
      rintro ρ ⟨hl, g0, g2, g3, g4, g9, g10⟩
      obtain ⟨late, a7, s7, h1, hlate, ok7⟩ := callF_takeN htk Htk (ρ := ρ) (i := 2) 1000000000000 g2 ok6 (by decide) (by decide)
      have hM : ∀ ρ, callF cx me [.d (intsT L), .d (.int x), .d (.int y)] ρ = .ok (.d (.int (meetL L 0 x y)), ρ) := fun ρ => callF_ok (fr := false) (ρ2 := ρ) hme Hme.1 rfl (Hme.2 L x y lok hx hy)
      have hT : ∀ (k : Int) ρ, 0 ≤ k → k ≤ 1000000000000 → callF cx ti [.d (intsT L), .d (.int x), .d (.int y), .d (.int k)] ρ = .ok (.d (.int (oftenI L.length (meetL L 0 x y) k)), ρ) := fun k ρ k0 k1 => callF_ok (fr := false) (ρ2 := ρ) hti Hti.1 rfl (Hti.2 L x y k lok hx hy k0 k1)
      have hT1 := fun ρ => hT late ρ (by omega) (by omega)
      have hT2 := fun ρ => hT (late + 1) ρ (by omega) (by omega)
      obtain ⟨m0, m1⟩ := meetL_rg (L := L) (t := 0) (x := x) (y := y) (by omega)
      have hsucc := often_succ (x := (late : Int)) hL m0 m1 (by omega)
      have hO : oftenI L.length (meetL L 0 x y) (late + 1) = oftenI L.length (meetL L 0 x y) late + if ((late : Int) - meetL L 0 x y) % (L.length : Int) = 0 then 1 else 0 := hsucc
      simp at h1
      simp [law17C_b2_11, law17C_b2_12, law17C_b2_13, hl, g2, g3, g4, g9, g10, pow1012, h1, hM, subI, modP hL, eqI, fInt, addI, hT1, hT2, neI]
      rw [hO]
      simp
      exact ⟨by simp [hl], by simp [g0]⟩
theorem l567 : LineOk [5, 6, 7] := ⟨by decide, by decide, by decide, by decide⟩
theorem l56 : LineOk [5, 6] := ⟨by decide, by decide, by decide, by decide⟩
theorem run17 {cx : Ctx} {bg ln of tk la me pi pa ro ti tn wa : Nat} (K : K17 cx bg ln of tk la me pi pa ro ti tn wa) (ns : List Int) : run cx 14 false (law17C bg ln of tk la me pi pa ro ti tn wa) [scrD ns] = .ok (.bool true) false := by
  refine run_Fx ?_
  obtain ⟨n, hn, hw⟩ := outer ns 8 (by decide)
  obtain ⟨fi, hpi, Hpi⟩ := K.pi
  obtain ⟨fw, hwa, Hwa⟩ := K.wa
  have c1 := fun ρ => callF_ok (fr := true) (ρ2 := ρ) (rs := [.d (intsT [5, 6, 7]), .d (.int 0)]) (ρ := ρ) hwa Hwa.1 rfl (Hwa.2 [5, 6, 7] 0 l567 (by decide))
  have c2 := fun ρ => callF_ok (fr := true) (ρ2 := ρ) (rs := [.d (intsT [5, 6, 7]), .d (.int 1)]) (ρ := ρ) hwa Hwa.1 rfl (Hwa.2 [5, 6, 7] 1 l567 (by decide))
  have c3 := fun ρ => callF_ok (fr := true) (ρ2 := ρ) (rs := [.d (intsT [5, 6]), .d (.int 1)]) (ρ := ρ) hpi Hpi.1 rfl (Hpi.2 [5, 6] 1 l56 (by decide))
  rw [show waitL (lineAt [5, 6, 7] 0) 0 = [7] by decide +kernel, show sortD ([7].map PyData.int) = [PyData.int 7] from List.mergeSort_singleton _] at c1
  rw [show waitL (lineAt [5, 6, 7] 1) 1 = [6] by decide +kernel, show sortD ([6].map PyData.int) = [PyData.int 6] from List.mergeSort_singleton _] at c2
  rw [show (pairsL (lineAt [5, 6] 1) 1).map pairD = [] by decide +kernel] at c3
  have e1 := eqL [7] [7]
  have e2 := eqL [6] [6]
  have e3 := eqL [] []
  simp [intsT, intsL] at c1 c2 c3 e1 e2 e3
  show Fx (xec cx (law17C bg ln of tk la me pi pa ro ti tn wa) [.fz (scrD ns), .no, .no, .no, .no, .no, .no, .no, .no, .no, .no, .no, .no, .no]) _ _
  simp at hw
  simp [law17C, scrLen, addI, hw]
  simp only [Fx_seqX]
  refine Fx_for (fun _ => Q17 ns) ⟨rfl, rfl⟩ (fun i x ρ hx h => ?_) fun ρ h => ?_
  · obtain ⟨rfl, hi⟩ := rangeD_at hx
    refine ⟨_, rfl, turn17 K (k := i) (by omega) (by simp [h.1]) (by simp [h.2]) (by simp [h.1])⟩
  · obtain ⟨hl, g0⟩ := h
    simp [law17C_1, hl, c1, c2, c3, e1, e2, e3]
end Iv
set_option maxRecDepth 100000
set_option maxHeartbeats 4000000
/-! R1: who has met in which rounds: tables by pairs. -/
namespace Iv
open PySem PySem.Spec PyProof.Rows L2
/-! ### tables by pairs -/
abbrev Tab := List ((Int × Int) × List Int)
def aget (kvs : Tab) (q : Int × Int) : Option (List Int) := (kvs.find? fun p => decide (p.1 = q)).map (·.2)
def aput (kvs : Tab) (q : Int × Int) (v : List Int) : Tab := if (kvs.any fun p => decide (p.1 = q)) = true then kvs.map fun p => if p.1 = q then (p.1, v) else p else kvs ++ [(q, v)]
def dP (kvs : Tab) : List (D × D) := kvs.map fun p => (pairD p.1, intsL p.2)
theorem eqv_pair (p q : Int × Int) : PyData.eqv (pairD p) (pairD q) = decide (p = q) := by
  have := eqv_kT [.inl p.1, .inl p.2] [.inl q.1, .inl q.2]
  rw [show (PyData.tuple ([(Sum.inl p.1 : Key), .inl p.2].map kD)) = pairD p from rfl, show (PyData.tuple ([(Sum.inl q.1 : Key), .inl q.2].map kD)) = pairD q from rfl] at this
  rw [this]
  by_cases h : p = q
  · subst h
    simp
  · rw [decide_eq_false h, decide_eq_false]
    intro z
    injection z with z1 z2
    injection z2 with z2 _
    injection z1 with z1
    injection z2 with z2
    exact h (Prod.ext z1 z2)
theorem aget_cons {p : (Int × Int) × List Int} {r : Tab} {q : Int × Int} : aget (p :: r) q = if p.1 = q then some p.2 else aget r q := by
  unfold aget
  rw [List.find?_cons]
  by_cases h : p.1 = q
  · rw [decide_eq_true h, if_pos h]
    rfl
  · rw [decide_eq_false h, if_neg h]
theorem dval_dP (q : Int × Int) : ∀ kvs : Tab, dval (dP kvs) (pairD q) = (aget kvs q).map intsL
  | [] => rfl
  | p :: r => by
    show dval ((pairD p.1, intsL p.2) :: dP r) _ = _
    rw [dval_cons, aget_cons, eqv_pair, dval_dP q r]
    by_cases h : p.1 = q <;> simp [h]
theorem any_dP (q : Int × Int) : ∀ kvs : Tab, ((dP kvs).any fun kv => PyData.eqv kv.1 (pairD q)) = kvs.any fun p => decide (p.1 = q)
  | [] => rfl
  | p :: r => by
    show (PyData.eqv (pairD p.1) (pairD q) || (dP r).any _) = (decide (p.1 = q) || _)
    rw [any_dP q r, eqv_pair]
theorem dput_dP (kvs : Tab) (q : Int × Int) (v : List Int) : dput (dP kvs) (pairD q) (intsL v) = dP (aput kvs q v) := by
  unfold dput aput
  rw [any_dP]
  split
  · unfold dP
    rw [List.map_map, List.map_map]
    apply List.map_congr_left
    intro p _
    show (if PyData.eqv (pairD p.1) (pairD q) = true then (pairD p.1, intsL v) else (pairD p.1, intsL p.2)) = (pairD (if p.1 = q then (p.1, v) else p).1, intsL (if p.1 = q then (p.1, v) else p).2)
    rw [eqv_pair]
    by_cases h : p.1 = q <;> simp [h]
  · unfold dP
    rw [List.map_append]
    rfl
theorem dP_key1 (kvs : Tab) : ((dP kvs).all fun p => key1 p.1) = true := by
  unfold dP
  rw [List.all_map, List.all_eq_true]
  intro p _
  rfl
theorem dP_dkeys (kvs : Tab) : dkeys (dP kvs) = true := by
  unfold dkeys
  rw [dP_key1, Bool.or_true]
theorem dP_ok (kvs : Tab) (q : Int × Int) : keyOk (dP kvs) (pairD q) = true := by
  unfold keyOk
  rw [dP_key1]
  simp [pairD, key1, key0]
theorem dP_len (kvs : Tab) : (dP kvs).length = kvs.length := List.length_map ..
theorem aget_none {kvs : Tab} {q : Int × Int} : aget kvs q = none ↔ (kvs.any fun p => decide (p.1 = q)) = false := by
  induction kvs with
  | nil => simp [aget]
  | cons p r ih =>
    rw [aget_cons, List.any_cons]
    by_cases h : p.1 = q <;> simp [h, ih]
theorem aget_app {kvs : Tab} {q k : Int × Int} {v : List Int} (hn : aget kvs q = none) : aget (kvs ++ [(q, v)]) k = if q = k then some v else aget kvs k := by
  induction kvs with
  | nil =>
    rw [List.nil_append, aget_cons]
  | cons p r ih =>
    rw [aget_cons] at hn
    by_cases h : p.1 = q
    · rw [if_pos h] at hn; cases hn
    · rw [if_neg h] at hn
      rw [List.cons_append, aget_cons, aget_cons, ih hn]
      by_cases h1 : p.1 = k
      · have : ¬ q = k := fun e => h (h1.trans e.symm)
        simp [h1, this]
      · simp [h1]
theorem aget_map {kvs : Tab} {q k : Int × Int} {v : List Int} : aget (kvs.map fun p => if p.1 = q then (p.1, v) else p) k = if q = k then (aget kvs k).map fun _ => v else aget kvs k := by
  induction kvs with
  | nil => simp [aget]
  | cons p r ih =>
    rw [List.map_cons, aget_cons, aget_cons, ih]
    by_cases h : p.1 = q
    · rw [if_pos h]
      by_cases h1 : q = k
      · have : p.1 = k := h.trans h1
        simp [this, h1]
      · have : ¬ p.1 = k := fun e => h1 (h.symm.trans e)
        simp [this, h1]
    · rw [if_neg h]
      by_cases h1 : q = k
      · have : ¬ p.1 = k := fun e => h (e.trans h1.symm)
        simp [this, h1]
      · simp [h1]
theorem aget_put (kvs : Tab) (q k : Int × Int) (v : List Int) : aget (aput kvs q v) k = if q = k then some v else aget kvs k := by
  unfold aput
  by_cases h : (kvs.any fun p => decide (p.1 = q)) = true
  · rw [if_pos h, aget_map]
    by_cases h1 : q = k
    · subst h1
      cases e : aget kvs q with
      | none => rw [aget_none.mp e] at h; cases h
      | some w => simp
    · simp [h1]
  · rw [if_neg h, aget_app (aget_none.mpr (Bool.eq_false_iff.mpr h))]
theorem aput_len (kvs : Tab) (q : Int × Int) (v : List Int) : (aput kvs q v).length ≤ kvs.length + 1 := by
  unfold aput
  split
  · rw [List.length_map]; omega
  · rw [List.length_append, List.length_singleton]; exact Nat.le_refl _
theorem aput_nd {kvs : Tab} {q : Int × Int} {v : List Int} (h : (kvs.map (·.1)).Nodup) : ((aput kvs q v).map (·.1)).Nodup := by
  unfold aput
  by_cases ha : (kvs.any fun p => decide (p.1 = q)) = true
  · rw [if_pos ha, List.map_map]
    have : (kvs.map ((·.1) ∘ fun p => if p.1 = q then (p.1, v) else p)) = kvs.map (·.1) := List.map_congr_left fun p _ => by
      show (if p.1 = q then (p.1, v) else p).1 = p.1
      split <;> rfl
    rw [this]
    exact h
  · rw [if_neg ha, List.map_append]
    refine List.nodup_append.mpr ⟨h, by simp, ?_⟩
    intro a hm b hb e
    rw [List.map_singleton, List.mem_singleton] at hb
    subst e hb
    obtain ⟨p, hp, e⟩ := List.mem_map.mp hm
    exact ha (List.any_eq_true.mpr ⟨p, hp, decide_eq_true e⟩)
/-- a number more at each key -/
def addR (kvs : Tab) (q : Int × Int) (r : Int) : Tab := aput kvs q ((aget kvs q).getD [] ++ [r])
def addAll (kvs : Tab) (r : Int) : List (Int × Int) → Tab
  | [] => kvs
  | q :: qs => addAll (addR kvs q r) r qs
theorem addAll_snoc (r : Int) (q : Int × Int) : ∀ (qs : List (Int × Int)) (kvs : Tab), addAll kvs r (qs ++ [q]) = addR (addAll kvs r qs) q r
  | [], _ => rfl
  | _ :: qs, kvs => addAll_snoc r q qs _
theorem aget_addAll {r : Int} {k : Int × Int} : ∀ {qs : List (Int × Int)} {kvs : Tab}, qs.Nodup → aget (addAll kvs r qs) k = if k ∈ qs then some ((aget kvs k).getD [] ++ [r]) else aget kvs k
  | [], _, _ => by simp [addAll]
  | q :: qs, kvs, nd => by
    obtain ⟨n1, n2⟩ := List.nodup_cons.mp nd
    show aget (addAll (addR kvs q r) r qs) k = _
    rw [aget_addAll n2]
    unfold addR
    rw [aget_put]
    by_cases h : q = k
    · subst h
      simp [n1]
    · have h' : ¬ k = q := fun e => h e.symm
      simp [h, h']
theorem addAll_nd {r : Int} : ∀ {qs : List (Int × Int)} {kvs : Tab}, (kvs.map (·.1)).Nodup → ((addAll kvs r qs).map (·.1)).Nodup
  | [], _, h => h
  | q :: qs, kvs, h => addAll_nd (qs := qs) (aput_nd h)
theorem addAll_len {r : Int} : ∀ (qs : List (Int × Int)) (kvs : Tab), (addAll kvs r qs).length ≤ kvs.length + qs.length
  | [], _ => Nat.le_refl _
  | q :: qs, kvs => by
    have h1 := addAll_len (r := r) qs (addR kvs q r)
    have h2 := aput_len kvs q ((aget kvs q).getD [] ++ [r])
    show (addAll (addR kvs q r) r qs).length ≤ _
    unfold addR at *
    rw [List.length_cons]
    omega
/-! ### the pairs of a round, by key -/
def kmin (a b : Int) : Int := if b < a then b else a
def kmax (a b : Int) : Int := if b > a then b else a
def keyP (p : Int × Int) : Int × Int := (kmin p.1 p.2, kmax p.1 p.2)
def roundP (M : List Int) (u : Nat) : List (Int × Int) := pairsL M u ++ (idleL M u).map fun x => (x, x)
theorem keyP_le (p : Int × Int) : (keyP p).1 ≤ (keyP p).2 := by
  unfold keyP kmin kmax
  dsimp only
  split <;> split <;> omega
theorem keyP_eq {p : Int × Int} {a b : Int} (h : keyP p = (a, b)) : (p = (a, b) ∨ p = (b, a)) ∧ a ≤ b := by
  obtain ⟨x, y⟩ := p
  unfold keyP kmin kmax at h
  injection h with h1 h2
  dsimp only at h1 h2
  refine ⟨?_, by split at h1 <;> split at h2 <;> omega⟩
  split at h1 <;> split at h2 <;> first | (left; exact Prod.ext (by omega) (by omega)) | (right; exact Prod.ext (by omega) (by omega))
theorem keyP_of {a b : Int} (h : a ≤ b) : keyP (a, b) = (a, b) ∧ keyP (b, a) = (a, b) := by
  unfold keyP kmin kmax
  dsimp only
  constructor <;> (apply Prod.ext <;> dsimp only <;> split <;> omega)
theorem pair_in {M : List Int} {u a : Nat} (h : a + 1 < M.length) (hp : a % 2 = u % 2) : (M.getD a 0, M.getD (a + 1) 0) ∈ pairsL M u := by
  unfold pairsL
  refine List.mem_map.mpr ⟨a / 2, List.mem_range.mpr (by unfold nPairs; omega), ?_⟩
  rw [show u % 2 + 2 * (a / 2) = a by omega]
theorem wait_in {M : List Int} {u a : Nat} (h : a < M.length) (hs : sg M.length u a = a) : M.getD a 0 ∈ waitL M u := by
  unfold waitL
  unfold sg at hs
  split at hs
  · rename_i hp
    split at hs
    · omega
    · have e : a = M.length - 1 := by omega
      refine List.mem_append_right _ ?_
      rw [if_pos (by omega), List.mem_singleton, e]
  · rename_i hp
    have e : a = 0 := by omega
    refine List.mem_append_left _ ?_
    rw [if_pos (by omega), List.mem_singleton, e]
theorem idle_iff {M : List Int} (nd : M.Nodup) (h2 : 2 ≤ M.length) {u : Nat} {x : Int} : x ∈ idleL M u ↔ x ∈ waitL M u := (wait_perm nd h2 u).mem_iff
theorem mem_round {L : List Int} (nd : L.Nodup) (h2 : 2 ≤ L.length) {t r : Nat} {a b : Int} : (a, b) ∈ (roundP (lineF L t r) (t + r)).map keyP ↔ a ∈ L ∧ b ∈ L ∧ a ≤ b ∧ (r : Int) % L.length = meetL L t a b := by
  have ndM := lineF_nd nd t r
  have lM : 2 ≤ (lineF L t r).length := by rw [lineF_len]; exact h2
  constructor
  · intro h
    obtain ⟨p, hp, e⟩ := List.mem_map.mp h
    obtain ⟨e1, e2⟩ := keyP_eq e
    rcases List.mem_append.mp hp with hp | hp
    · have hp' : (p.1, p.2) ∈ pairsL (lineF L t r) (t + r) := hp
      obtain ⟨m1, m2, m3, _⟩ := pair_meet nd hp'
      rcases e1 with rfl | rfl
      · exact ⟨m1, m2, e2, m3.symm⟩
      · exact ⟨m2, m1, e2, by rw [meetL_comm]; exact m3.symm⟩
    · obtain ⟨x, hx, rfl⟩ := List.mem_map.mp hp
      obtain ⟨m1, m2, _⟩ := wait_meet nd (by omega) ((idle_iff ndM lM).mp hx)
      rcases e1 with e1 | e1 <;> (cases e1; exact ⟨m1, m1, e2, m2.symm⟩)
  · rintro ⟨ha, hb, hab, hm⟩
    have hi := (meetL_iff nd ha hb r).mpr hm
    have ha' : a ∈ lineF L t r := (lineF_perm t r).mem_iff.mpr ha
    have hb' : b ∈ lineF L t r := (lineF_perm t r).mem_iff.mpr hb
    have la := idx_lt ha'
    have lb := idx_lt hb'
    have ga := getD_idx ha'
    have gb := getD_idx hb'
    rw [← lineF_len (L := L) (t := t) r] at hi
    generalize (lineF L t r).idxOf a = i at *
    generalize (lineF L t r).idxOf b = j at *
    obtain ⟨k1, k2⟩ := keyP_of hab
    by_cases e : i = j
    · subst e
      have hx : a ∈ idleL (lineF L t r) (t + r) := by
        rw [idle_iff ndM lM, ← ga]
        exact wait_in la hi.symm
      have hab' : a = b := ga.symm.trans gb
      subst hab'
      exact List.mem_map.mpr ⟨(a, a), List.mem_append_right _ (List.mem_map.mpr ⟨a, hx, rfl⟩), k1⟩
    · unfold sg at hi
      split at hi
      · rename_i hp
        split at hi
        · subst hi
          have := pair_in (M := lineF L t r) (u := t + r) (a := j) la (by omega)
          rw [ga, gb] at this
          exact List.mem_map.mpr ⟨(b, a), List.mem_append_left _ this, k2⟩
        · exact absurd hi e
      · rename_i hp
        by_cases hj : j = 0
        · exact absurd (by omega : i = j) e
        · have e2 : j = i + 1 := by omega
          subst e2
          have := pair_in (M := lineF L t r) (u := t + r) (a := i) lb (by omega)
          rw [ga, gb] at this
          exact List.mem_map.mpr ⟨(a, b), List.mem_append_left _ this, k1⟩
theorem round_nd {M : List Int} (nd : M.Nodup) (u : Nat) : ((roundP M u).map keyP).Nodup := by
  unfold roundP
  rw [List.map_append]
  refine List.nodup_append.mpr ⟨?_, ?_, ?_⟩
  · unfold pairsL
    rw [List.map_map]
    refine List.pairwise_map.mpr (List.Pairwise.imp_of_mem (fun {j j'} hj hj' hlt e => ?_) List.pairwise_lt_range)
    have l1 := nPairs_le (List.mem_range.mp hj)
    have l2 := nPairs_le (List.mem_range.mp hj')
    have e : keyP (M.getD (u % 2 + 2 * j) 0, M.getD (u % 2 + 2 * j + 1) 0) = keyP (M.getD (u % 2 + 2 * j') 0, M.getD (u % 2 + 2 * j' + 1) 0) := e
    obtain ⟨q, _⟩ := keyP_eq (p := (M.getD (u % 2 + 2 * j) 0, M.getD (u % 2 + 2 * j + 1) 0)) (a := (keyP (M.getD (u % 2 + 2 * j') 0, M.getD (u % 2 + 2 * j' + 1) 0)).1) (b := (keyP (M.getD (u % 2 + 2 * j') 0, M.getD (u % 2 + 2 * j' + 1) 0)).2) e
    obtain ⟨q', _⟩ := keyP_eq (p := (M.getD (u % 2 + 2 * j') 0, M.getD (u % 2 + 2 * j' + 1) 0)) (a := (keyP (M.getD (u % 2 + 2 * j') 0, M.getD (u % 2 + 2 * j' + 1) 0)).1) (b := (keyP (M.getD (u % 2 + 2 * j') 0, M.getD (u % 2 + 2 * j' + 1) 0)).2) rfl
    generalize (keyP (M.getD (u % 2 + 2 * j') 0, M.getD (u % 2 + 2 * j' + 1) 0)).1 = A at *
    generalize (keyP (M.getD (u % 2 + 2 * j') 0, M.getD (u % 2 + 2 * j' + 1) 0)).2 = B at *
    have c : M.getD (u % 2 + 2 * j) 0 = M.getD (u % 2 + 2 * j') 0 ∨ M.getD (u % 2 + 2 * j) 0 = M.getD (u % 2 + 2 * j' + 1) 0 := by
      rcases q with q | q <;> rcases q' with q' | q' <;> (injection q with q1 q2; injection q' with q3 q4; rw [q1, q3, q4]; simp)
    rcases c with c | c
    · have := getD_inj nd (by omega) (by omega) c
      omega
    · have := getD_inj nd (by omega) (by omega) c
      omega
  · rw [List.map_map]
    have e : (keyP ∘ fun x : Int => (x, x)) = fun x => (x, x) := by
      funext x
      exact (keyP_of (Int.le_refl x)).1
    rw [e]
    refine List.pairwise_map.mpr (List.Pairwise.imp (fun {a b} h z => h (by injection z)) (show (idleL M u).Nodup from nd.sublist List.filter_sublist))
  · intro p hp q hq e
    subst e
    rw [List.map_map] at hq
    obtain ⟨x, _, e⟩ := List.mem_map.mp hq
    obtain ⟨p', hp', e'⟩ := List.mem_map.mp hp
    have e : keyP (x, x) = p := e
    rw [(keyP_of (Int.le_refl x)).1] at e
    subst e
    obtain ⟨q, _⟩ := keyP_eq e'
    have : p' = (x, x) := by rcases q with q | q <;> exact q
    subst this
    obtain ⟨a, ha, _, e1, e2⟩ := pair_mem hp'
    have := getD_inj nd (by omega) (by omega) (e1.symm.trans e2)
    omega
/-! ### all rounds -/
def metF (L : List Int) (t : Nat) : Nat → Tab
  | 0 => []
  | r + 1 => addAll (metF L t r) ((t + r : Nat) : Int) ((roundP (lineF L t r) (t + r)).map keyP)
/-- the rounds of the first many in which they meet -/
def meetR (L : List Int) (t many : Nat) (a b : Int) : List Int := ((List.range many).filter fun (r : Nat) => decide ((r : Int) % L.length = meetL L t a b)).map fun (r : Nat) => ((t + r : Nat) : Int)
theorem metF_get {L : List Int} (nd : L.Nodup) (h2 : 2 ≤ L.length) {t : Nat} {a b : Int} : ∀ many : Nat, aget (metF L t many) (a, b) = if a ∈ L ∧ b ∈ L ∧ a ≤ b ∧ meetR L t many a b ≠ [] then some (meetR L t many a b) else none
  | 0 => by simp [metF, aget, meetR]
  | r + 1 => by
    show aget (addAll _ _ _) _ = _
    rw [aget_addAll (round_nd (lineF_nd nd t r) _), metF_get nd h2 r]
    have es : meetR L t (r + 1) a b = meetR L t r a b ++ if (r : Int) % L.length = meetL L t a b then [((t + r : Nat) : Int)] else [] := by
      unfold meetR
      rw [List.range_succ, List.filter_append, List.map_append]
      congr 1
      by_cases h : (r : Int) % L.length = meetL L t a b <;> simp [h]
    by_cases hm : (a, b) ∈ (roundP (lineF L t r) (t + r)).map keyP
    · rw [if_pos hm]
      obtain ⟨h3, h4, h5, h6⟩ := (mem_round nd h2).mp hm
      rw [es, if_pos h6]
      by_cases e : meetR L t r a b = []
      · simp [e, h3, h4, h5]
      · simp [e, h3, h4, h5]
    · rw [if_neg hm]
      by_cases h : a ∈ L ∧ b ∈ L ∧ a ≤ b
      · obtain ⟨h3, h4, h5⟩ := h
        have h6 : ¬ (r : Int) % L.length = meetL L t a b := fun h6 => hm ((mem_round nd h2).mpr ⟨h3, h4, h5, h6⟩)
        rw [es, if_neg h6, List.append_nil]
      · rw [if_neg (fun z => h ⟨z.1, z.2.1, z.2.2.1⟩), if_neg (fun z => h ⟨z.1, z.2.1, z.2.2.1⟩)]
theorem metF_nd (L : List Int) (t : Nat) : ∀ many : Nat, ((metF L t many).map (·.1)).Nodup
  | 0 => List.nodup_nil
  | r + 1 => addAll_nd (metF_nd L t r)
theorem pairsL_len (M : List Int) (u : Nat) : (pairsL M u).length ≤ M.length := by
  unfold pairsL
  rw [List.length_map, List.length_range]
  unfold nPairs
  omega
theorem round_len (M : List Int) (u : Nat) : (roundP M u).length ≤ 2 * M.length := by
  unfold roundP
  rw [List.length_append, List.length_map]
  have h1 := pairsL_len M u
  have h2 : (idleL M u).length ≤ M.length := List.length_filter_le _ _
  omega
theorem metF_len (L : List Int) (t : Nat) : ∀ many : Nat, (metF L t many).length ≤ many * (2 * L.length)
  | 0 => by simp [metF]
  | r + 1 => by
    have h1 := metF_len L t r
    have h2 := addAll_len (r := ((t + r : Nat) : Int)) ((roundP (lineF L t r) (t + r)).map keyP) (metF L t r)
    have h3 := round_len (lineF L t r) (t + r)
    rw [lineF_len] at h3
    rw [List.length_map] at h2
    show (addAll _ _ _).length ≤ _
    rw [Nat.succ_mul]
    omega
theorem meetR_len (L : List Int) (t many : Nat) (a b : Int) : (meetR L t many a b).length ≤ many := by
  unfold meetR
  rw [List.length_map]
  have := List.length_filter_le (fun r : Nat => decide ((r : Int) % L.length = meetL L t a b)) (List.range many)
  rwa [List.length_range] at this
end Iv
set_option maxRecDepth 100000
set_option maxHeartbeats 4000000
/-! R2: _law_met. -/
namespace Iv
open PySem PySem.Spec PyProof.Rows L2
def metC_l0 : C := (.lc [11] (.tup (.cons (.v 11) (.cons (.v 11) .nil))) (.n 11) .seq (.cons (.v 7) .nil) (.k (.bool true)))
def metC_b0_1 : S := (.seq (.set 3 (.v 10) (.op .Add (.me .get2 (.v 3) (.cons (.v 10) (.cons (.lst .nil) .nil))) (.lst (.cons (.op .Add (.v 1) (.v 5)) .nil)))) .nil)
def metC_b0 : S := (.seq (.asg 10 (.tup (.cons (.bi .min2 (.cons (.v 8) (.cons (.v 9) .nil))) (.cons (.bi .max2 (.cons (.v 8) (.cons (.v 9) .nil))) .nil)))) metC_b0_1)
def metC_b1_1 : S := (.seq (.for (.t [8, 9]) .seq (.cons (.op .Add (.v 6) metC_l0) .nil) metC_b0) .nil)
def metC_b1 (i_law_danced : Nat) : S := (.seq (.asgT [6, 7, 4] (.call i_law_danced (.cons (.v 4) (.cons (.op .Add (.v 1) (.v 5)) .nil)))) metC_b1_1)
def metC_2 : S := (.seq (.ret (.tup (.cons (.v 3) (.cons (.v 4) .nil)))) .nil)
def metC_1 (i_law_danced : Nat) : S := (.seq (.for (.n 5) .r1 (.cons (.v 2) .nil) (metC_b1 i_law_danced)) metC_2)
def metC (i_law_danced : Nat) : S := (.seq (.par [3, 4] (.cons (.dic .nil .nil) (.cons (.v 0) .nil))) (metC_1 i_law_danced))
section
variable {cx : Ctx}
theorem addL {a b : List Int} (h : a.length + b.length ≤ big) : binop .Add (intsL a) (intsL b) = some (.f (intsL (a ++ b))) := by
  unfold intsL
  show (if (a.map PyData.int).length + (b.map PyData.int).length ≤ big then some (Rv.f (.list (a.map .int ++ b.map .int))) else none) = _
  rw [if_pos (by rw [List.length_map, List.length_map]; exact h), List.map_append]
theorem addLL {a b : List D} (h : a.length + b.length ≤ big) : binop .Add (.list a) (.list b) = some (.f (.list (a ++ b))) := if_pos h
theorem get2P (kvs : Tab) (q : Int × Int) (l : List Int) : method .get2 (.dict (dP kvs)) [pairD q, intsL l] = some (.d (intsL ((aget kvs q).getD l))) := by
  show (if keyOk (dP kvs) (pairD q) = true then some (Rv.d ((dval (dP kvs) (pairD q)).getD (intsL l))) else none) = _
  rw [if_pos (dP_ok kvs q), dval_dP]
  cases aget kvs q <;> rfl
theorem get1P (kvs : Tab) (q : Int × Int) : method .get1 (.dict (dP kvs)) [pairD q] = some (.d (((aget kvs q).map intsL).getD .none)) := by
  show (if keyOk (dP kvs) (pairD q) = true then some (Rv.d ((dval (dP kvs) (pairD q)).getD .none)) else none) = _
  rw [if_pos (dP_ok kvs q), dval_dP]
theorem setP {kvs : Tab} {q : Int × Int} {v : List Int} (h : kvs.length < big) : setItem (.dict (dP kvs)) (pairD q) (intsL v) = some (.dict (dP (aput kvs q v))) := by
  rw [setD (dP_ok kvs q) (by rw [dP_len]; exact h), dput_dP]
theorem take_at {α : Type} {l : List α} {i : Nat} {x : α} (h : l[i]? = some x) : l.take (i + 1) = l.take i ++ [x] := by rw [List.take_succ, h]; rfl
theorem addAll_v {r : Int} : ∀ {qs : List (Int × Int)} {kvs : Tab} {m : Nat}, (∀ q l, aget kvs q = some l → l.length ≤ m) → ∀ q l, aget (addAll kvs r qs) q = some l → l.length ≤ m + qs.length
  | [], _, _, h, q, l, e => h q l e
  | q0 :: qs, kvs, m, h, q, l, e => by
    have e : aget (addAll (addR kvs q0 r) r qs) q = some l := e
    have := addAll_v (qs := qs) (kvs := addR kvs q0 r) (m := m + 1) (fun k w hk => by
      unfold addR at hk
      rw [aget_put] at hk
      by_cases h1 : q0 = k
      · rw [if_pos h1] at hk
        cases hk
        rw [List.length_append, List.length_singleton]
        cases e2 : aget kvs q0 with
        | none => simp
        | some z =>
          have := h q0 z e2
          simpa using this
      · rw [if_neg h1] at hk
        have := h k w hk
        omega) q l e
    rw [List.length_cons]
    omega
def MetF (f : FI) : Prop := f.io = false ∧ ∀ (L : List Int) (t many : Nat), LineOk L → many ≤ 1000 → f.sem [intsT L, .int t, .int many] = .ok (.tuple [.dict (dP (metF L t many)), intsT (lineF L t many)]) false
theorem met_inner {u : Nat} {kvs0 : Tab} {t r : Nat} {T : D → Bool → Env → Prop} (hu : u = t + r) (ps : List (Int × Int)) {N : Env → Prop} {ρ : Env} (hl : ρ.length = 12) (g1 : get ρ 1 = .fz (.int t)) (g5 : get ρ 5 = .fz (.int r)) (g3 : get ρ 3 = .ow (.dict (dP kvs0))) (P : Env → Prop) (hP : P ρ) (hPs : ∀ ρ i v, P ρ → i = 3 ∨ i = 8 ∨ i = 9 ∨ i = 10 → P (ρ.set i v))
    (hlen : kvs0.length + ps.length < big) {m : Nat} (hv : ∀ q l, aget kvs0 q = some l → l.length ≤ m) (hm : m + ps.length < big)
    (hN : ∀ ρ, ρ.length = 12 → get ρ 1 = .fz (.int t) → get ρ 3 = .ow (.dict (dP (addAll kvs0 (u : Int) (ps.map keyP)))) → P ρ → N ρ) : Fx (forGo (xec cx metC_b0) (.t [8, 9]) (ps.map pairD) ρ) N T := by
  refine Fx_for (fun i ρ => ρ.length = 12 ∧ get ρ 1 = .fz (.int t) ∧ get ρ 5 = .fz (.int r) ∧ get ρ 3 = .ow (.dict (dP (addAll kvs0 (u : Int) ((ps.take i).map keyP)))) ∧ P ρ) ⟨hl, g1, g5, g3, hP⟩ (fun i x ρ hx h => ?_) fun ρ h => ?_
  · rw [List.getElem?_map] at hx
    obtain ⟨p, hp, rfl⟩ := Option.map_eq_some_iff.mp hx
    obtain ⟨hl, g1, g5, g3, hP⟩ := h
    have hi := (List.getElem?_eq_some_iff.mp hp).1
    have hb := addAll_len (r := (u : Int)) ((ps.take i).map keyP) kvs0
    rw [List.length_map, List.length_take] at hb
    have e : (ps.take (i + 1)).map keyP = (ps.take i).map keyP ++ [keyP p] := by
      rw [take_at hp, List.map_append]
      rfl
    have hl2 : ((aget (addAll kvs0 (u : Int) ((ps.take i).map keyP)) (keyP p)).getD []).length + 1 ≤ big := by
      have hv' := addAll_v (r := (u : Int)) (qs := (ps.take i).map keyP) hv (keyP p)
      rw [List.length_map, List.length_take] at hv'
      cases e : aget (addAll kvs0 (u : Int) ((ps.take i).map keyP)) (keyP p) with
      | none => simp
      | some z =>
        have := hv' z e
        simp
        omega
    refine ⟨_, rfl, ?_⟩
    rw [e, addAll_snoc]
    generalize addAll kvs0 (u : Int) ((ps.take i).map keyP) = kvs at *
    have hk : (PyData.tuple [.int (kmin p.1 p.2), .int (kmax p.1 p.2)]) = pairD (keyP p) := rfl
    have hg : method .get2 (.dict (dP kvs)) [pairD (keyP p), .list []] = some (.d (intsL ((aget kvs (keyP p)).getD []))) := get2P kvs (keyP p) []
    have ha : binop .Add (intsL ((aget kvs (keyP p)).getD [])) (.list [.int (u : Int)]) = some (.f (intsL ((aget kvs (keyP p)).getD [] ++ [(u : Int)]))) := addL (b := [(u : Int)]) hl2
    have hs : setItem (.dict (dP kvs)) (pairD (keyP p)) (intsL ((aget kvs (keyP p)).getD [] ++ [(u : Int)])) = some (.dict (dP (addR kvs (keyP p) u))) := setP (by omega)
    have eu : (t : Int) + r = u := by omega
    have m1 : fMin2 (.int p.1) (.int p.2) = some (.d (.int (kmin p.1 p.2))) := rfl
    have m2 : fMax2 (.int p.1) (.int p.2) = some (.d (.int (kmax p.1 p.2))) := rfl
    simp [metC_b0, metC_b0_1, hl, g1, g3, g5, addI, -min2I, -max2I, m1, m2, hk, dP_dkeys, eu, hg, ha, hs]
    exact hPs _ _ _ (hPs _ _ _ (hPs _ _ _ (hPs _ _ _ hP (by simp)) (by simp)) (by simp)) (by simp)
  · obtain ⟨hl, g1, g5, g3, hP⟩ := h
    rw [List.length_map, List.take_length] at g3
    exact hN ρ hl g1 g3 hP
theorem sem_met {fd : FI} {d : Nat} (hd : cx.fs[d]? = some fd) (Hd : DancedF fd) {f : FI} (hio : f.io = false) (hs : ∀ ds, f.sem ds = run cx 12 false (metC d) ds) : MetF f := by
  refine ⟨hio, fun L t many ok hm => ?_⟩
  rw [hs]
  refine run_Fx ?_
  have lo := ok.lo
  have hi := ok.hi
  have hb := bigN
  show Fx (xec cx (metC d) [.fz (intsT L), .fz (.int t), .fz (.int many), .no, .no, .no, .no, .no, .no, .no, .no, .no]) _ _
  have hw := walk1 (n := many) (by have := limN; omega)
  simp [metC, metC_1, hw]
  simp only [Fx_seqX]
  refine Fx_for (fun i ρ => ρ.length = 12 ∧ get ρ 1 = .fz (.int t) ∧ get ρ 3 = .ow (.dict (dP (metF L t i))) ∧ get ρ 4 = .fz (intsT (lineF L t i))) ⟨rfl, rfl, rfl, rfl⟩ (fun i x ρ hx h => ?_) fun ρ h => ?_
  · obtain ⟨rfl, hi2⟩ := rangeD_at hx
    obtain ⟨hl, g1, g3, g4⟩ := h
    refine ⟨_, rfl, ?_⟩
    have nd := lineF_nd ok.nd t i
    have ll := lineF_len (L := L) (t := t) i
    obtain ⟨u, hu⟩ : ∃ u, u = t + i := ⟨_, rfl⟩
    have hD : ∀ ρ, callF cx d [.d (intsT (lineF L t i)), .d (.int u)] ρ = .ok (.d (.tuple [.list ((pairsL (lineF L t i) u).map pairD), intsL (idleL (lineF L t i) u), intsT (stepL (lineF L t i) u)]), ρ) := fun ρ => callF_ok (fr := false) (ρ2 := ρ) hd Hd.1 rfl (Hd.2 _ _ nd (by omega) (by omega))
    have hst : lineF L t (i + 1) = stepL (lineF L t i) u := by rw [hu]; rfl
    have eu : (t : Int) + i = (u : Int) := by omega
    have hlen := metF_len L t i
    have hv : ∀ q l, aget (metF L t i) q = some l → l.length ≤ i := fun q l e => by
      obtain ⟨a, b⟩ := q
      rw [metF_get ok.nd lo] at e
      split at e
      · cases e
        exact meetR_len L t i a b
      · cases e
    have hrl := round_len (lineF L t i) u
    have hpl := pairsL_len (lineF L t i) u
    have hil : (idleL (lineF L t i) u).length ≤ (lineF L t i).length := List.length_filter_le _ _
    have hro : roundP (lineF L t i) u = pairsL (lineF L t i) u ++ (idleL (lineF L t i) u).map fun x => (x, x) := rfl
    have hm1 : metF L t (i + 1) = addAll (metF L t i) (u : Int) ((roundP (lineF L t i) u).map keyP) := by rw [hu]; rfl
    have hmul : i * (2 * L.length) ≤ 1000 * 48 := Nat.mul_le_mul (by omega) (by omega)
    rw [hm1, hst]
    clear hst hm1
    generalize metF L t i = kvs at *
    generalize hM : lineF L t i = M at *
    generalize stepL M u = M' at *
    generalize hI : idleL M u = I at *
    generalize hP : pairsL M u = P at *
    have hlc : ∀ ρ : Env, ρ.length = 12 → get ρ 7 = .fz (intsL I) → ev cx metC_l0 ρ = .ok (.f (.list ((I.map fun x => (x, x)).map pairD)), ρ) := fun ρ hl g7 => by
      rw [List.map_map]
      exact ev_lcI (rs := [.d (intsL I)]) (ds := [intsL I]) (fun j => pairD (j, j)) (by simp [g7]) rfl rfl (by omega) fun j hj ρ1 e1 => ⟨.d (pairD (j, j)), by subst e1; simp [hl, pairD], rfl⟩
    have hA : binop .Add (.list (P.map pairD)) (.list ((I.map fun x => (x, x)).map pairD)) = some (.f (.list ((roundP M u).map pairD))) := by
      rw [addLL (by rw [List.length_map, List.length_map, List.length_map]; omega), hro, List.map_append]
    rw [List.map_map] at hA
    simp [metC_b1, metC_b1_1, hl, g1, g4, addI, eu, hD]
    rw [hlc _ (by simp [hl]) (by simp [hl])]
    simp [hl, hA, walkL]
    simp only [Fx_seqX]
    refine met_inner (r := i) hu (roundP M u) (by simp [hl]) (by simp [g1]) (by simp [hl]) (by simp [g3]) (fun ρ => get ρ 4 = .fz (intsT M')) (by simp [hl]) (fun ρ i v h hi => by rw [get_set_ne (by omega)]; exact h) (by omega) hv (by omega) fun ρ h1 h2 h3 h4 => ?_
    simp
    exact ⟨h1, h2, h3, h4⟩
  · obtain ⟨hl, g1, g3, g4⟩ := h
    rw [rangeD_length] at g3 g4
    simp [metC_2, g3, g4, hl]
end
end Iv
set_option maxRecDepth 100000
set_option maxHeartbeats 4000000
/-! R3: the law k04. -/
namespace Iv
open PySem PySem.Spec PyProof.Rows L2
def law04C_l0 (i_turn_number : Nat) : C := (.lc [12] (.call i_turn_number (.cons (.v 3) (.cons (.v 12) .nil))) (.n 12) .seq (.cons (.v 3) .nil) (.k (.bool true)))
def law04C_l1 : C := (.lc [13] (.ife (.tr (.cmp .Eq (.op .Mod (.v 13) (.k (.int 2))) (.k (.int 0)))) (.op .FloorDiv (.v 13) (.k (.int 2))) (.op .Sub (.v 4) (.op .FloorDiv (.op .Add (.v 13) (.k (.int 1))) (.k (.int 2))))) (.n 13) .r1 (.cons (.v 4) .nil) (.k (.bool true)))
def law04C_b0_2 : S := (.seq (.ife (.tr (.cmp .NotEq (.op .Mod (.op .Add (.op .Add (.op .Add (.v 8) (.v 10)) (.k (.int 1))) (.v 11)) (.v 4)) (.k (.int 0)))) (.seq (.ret (.k (.bool false))) .nil) .nil) .nil)
def law04C_b0_1 : S := (.seq (.ife (.ort (.tr (.cmp .NotEq (.me .get1 (.v 6) (.cons (.tup (.cons (.bi .min2 (.cons (.v 7) (.cons (.v 9) .nil))) (.cons (.bi .max2 (.cons (.v 7) (.cons (.v 9) .nil))) .nil))) .nil)) (.lst (.cons (.v 11) .nil)))) (.tr (.bi .isbool (.cons (.v 11) .nil)))) (.seq (.ret (.k (.bool false))) .nil) .nil) law04C_b0_2)
def law04C_b0 (i_meeting : Nat) : S := (.seq (.asg 11 (.call i_meeting (.cons (.v 3) (.cons (.v 7) (.cons (.v 9) .nil))))) law04C_b0_1)
def law04C_b1 (i_meeting : Nat) : S := (.seq (.for (.t [9, 10]) .zip (.cons (.v 3) (.cons (.v 5) .nil)) (law04C_b0 i_meeting)) .nil)
def law04C_b2_7 (i_meeting : Nat) : S := (.seq (.for (.t [7, 8]) .zip (.cons (.v 3) (.cons (.v 5) .nil)) (law04C_b1 i_meeting)) .nil)
def law04C_b2_6 (i_law_met i_meeting : Nat) : S := (.seq (.asg 6 (.ix (.call i_law_met (.cons (.v 3) (.cons (.k (.int 0)) (.cons (.v 4) .nil)))) (.k (.int 0)))) (law04C_b2_7 i_meeting))
def law04C_b2_5 (i_law_met i_meeting : Nat) : S := (.seq (.ife (.tr (.cmp .NotEq (.bi .sorted (.cons (.v 5) .nil)) (.bi .lrange (.cons (.v 4) .nil)))) (.seq (.ret (.k (.bool false))) .nil) .nil) (law04C_b2_6 i_law_met i_meeting))
def law04C_b2_4 (i_law_met i_meeting : Nat) : S := (.seq (.ife (.tr (.cmp .NotEq (.v 5) law04C_l1)) (.seq (.ret (.k (.bool false))) .nil) .nil) (law04C_b2_5 i_law_met i_meeting))
def law04C_b2_3 (i_law_met i_meeting i_turn_number : Nat) : S := (.seq (.asg 5 (law04C_l0 i_turn_number)) (law04C_b2_4 i_law_met i_meeting))
def law04C_b2_2 (i_law_met i_meeting i_turn_number : Nat) : S := (.seq (.asg 4 (.bi .len (.cons (.v 3) .nil))) (law04C_b2_3 i_law_met i_meeting i_turn_number))
def law04C_b2_1 (i_law_line i_law_met i_law_take i_meeting i_turn_number : Nat) : S := (.seq (.asg 3 (.call i_law_line (.cons (.v 2) (.cons (.ix (.lst (.cons (.k (.int 6)) (.cons (.k (.int 24)) .nil))) (.call i_law_take (.cons (.v 2) (.cons (.k (.int 2)) .nil)))) .nil)))) (law04C_b2_2 i_law_met i_meeting i_turn_number))
def law04C_b2 (i_law_bag i_law_line i_law_met i_law_take i_meeting i_turn_number : Nat) : S := (.seq (.asg 2 (.call i_law_bag (.cons (.v 0) (.cons (.v 1) .nil)))) (law04C_b2_1 i_law_line i_law_met i_law_take i_meeting i_turn_number))
def law04C_l2 (i_turn_number : Nat) : C := (.lc [12] (.call i_turn_number (.cons (.v 3) (.cons (.v 12) .nil))) (.n 12) .seq (.cons (.v 3) .nil) (.k (.bool true)))
def law04C_3 (i_meeting : Nat) : S := (.seq (.ret (.cmp .Eq (.lst (.cons (.call i_meeting (.cons (.v 3) (.cons (.k (.int 0)) (.cons (.k (.int 3)) .nil)))) (.cons (.call i_meeting (.cons (.v 3) (.cons (.k (.int 2)) (.cons (.k (.int 1)) .nil)))) (.cons (.call i_meeting (.cons (.v 3) (.cons (.k (.int 0)) (.cons (.k (.int 0)) .nil)))) (.cons (.call i_meeting (.cons (.tup (.cons (.k (.int 7)) (.cons (.k (.int 3)) .nil))) (.cons (.k (.int 3)) (.cons (.k (.int 7)) .nil)))) .nil))))) (.lst (.cons (.k (.int 1)) (.cons (.k (.int 3)) (.cons (.k (.int 3)) (.cons (.k (.int 0)) .nil))))))) .nil)
def law04C_2 (i_meeting i_turn_number : Nat) : S := (.seq (.ife (.tr (.cmp .NotEq (law04C_l2 i_turn_number) (.lst (.cons (.k (.int 0)) (.cons (.k (.int 3)) (.cons (.k (.int 1)) (.cons (.k (.int 2)) .nil))))))) (.seq (.ret (.k (.bool false))) .nil) .nil) (law04C_3 i_meeting))
def law04C_1 (i_meeting i_turn_number : Nat) : S := (.seq (.asg 3 (.tup (.cons (.k (.int 0)) (.cons (.k (.int 1)) (.cons (.k (.int 2)) (.cons (.k (.int 3)) .nil)))))) (law04C_2 i_meeting i_turn_number))
def law04C (i_law_bag i_law_line i_law_met i_law_take i_meeting i_turn_number : Nat) : S := (.seq (.for (.n 1) .r1 (.cons (.op .Add (.bi .min2 (.cons (.bi .len (.cons (.v 0) .nil)) (.cons (.k (.int 6)) .nil))) (.k (.int 2))) .nil) (law04C_b2 i_law_bag i_law_line i_law_met i_law_take i_meeting i_turn_number)) (law04C_1 i_meeting i_turn_number))
theorem sort_ints_to {l m : List Int} (h : List.Perm l m) (s : m.Pairwise (fun a b => a ≤ b)) : sortD (l.map .int) = m.map .int := by
  refine sort_eq (h.map _) ?_ fun a b ha hb h1 h2 => ?_
  · rw [List.pairwise_map]
    exact s.imp fun {a b} hab => by rw [le1]; exact decide_eq_true hab
  · obtain ⟨x, _, rfl⟩ := List.mem_map.mp ha
    obtain ⟨y, _, rfl⟩ := List.mem_map.mp hb
    rw [le1, decide_eq_true_eq] at h1 h2
    rw [show x = y by omega]
theorem turn_perm (n : Nat) : List.Perm ((List.range n).map fun p => turnN n p) ((List.range n).map fun (k : Nat) => (k : Int)) := by
  refine (List.perm_ext_iff_of_nodup ?_ ?_).mpr fun v => ?_
  · refine List.pairwise_map.mpr (List.Pairwise.imp_of_mem (fun {a b} ha hb hlt e => ?_) List.pairwise_lt_range)
    have ha := List.mem_range.mp ha
    have hb := List.mem_range.mp hb
    unfold turnN at e
    split at e <;> split at e <;> omega
  · exact List.pairwise_map.mpr (List.Pairwise.imp (fun {a b} hlt e => by omega) List.pairwise_lt_range)
  · constructor
    · intro h
      obtain ⟨p, hp, rfl⟩ := List.mem_map.mp h
      obtain ⟨h0, h1⟩ := turnN_rg (List.mem_range.mp hp)
      exact List.mem_map.mpr ⟨(turnN n p).toNat, List.mem_range.mpr (by omega), by omega⟩
    · intro h
      obtain ⟨k, hk, rfl⟩ := List.mem_map.mp h
      have hk := List.mem_range.mp hk
      by_cases h2 : 2 * k < n
      · refine List.mem_map.mpr ⟨2 * k, List.mem_range.mpr h2, ?_⟩
        unfold turnN
        rw [if_pos (by omega)]
        omega
      · refine List.mem_map.mpr ⟨2 * (n - k) - 1, List.mem_range.mpr (by omega), ?_⟩
        unfold turnN
        rw [if_neg (by omega)]
        omega
theorem turns_eq {L : List Int} (nd : L.Nodup) : (L.map fun x => turnN L.length (L.idxOf x)) = (List.range L.length).map fun p => turnN L.length p := by
  apply List.ext_getElem?
  intro i
  rw [List.getElem?_map, List.getElem?_map]
  by_cases h : i < L.length
  · have e := idx_getD nd h
    have g : L.getD i 0 = L[i] := by simp [h]
    rw [g] at e
    simp [h, e]
  · simp [h]
theorem filt_range {n m : Nat} (h : m < n) : ∀ {p : Nat → Bool}, (∀ k, k < n → (p k = true ↔ k = m)) → (List.range n).filter p = [m] := by
  induction n with
  | zero => omega
  | succ n ih =>
    intro p hp
    rw [List.range_succ, List.filter_append]
    by_cases hm : m < n
    · rw [ih hm fun k hk => hp k (by omega)]
      have : ¬ p n = true := fun z => by have := (hp n (by omega)).mp z; omega
      simp [this]
    · have e : n = m := by omega
      subst e
      have e1 : (List.range n).filter p = [] := by
        rw [List.filter_eq_nil_iff]
        intro x hx z
        have h1 := List.mem_range.mp hx
        have := (hp x (by omega)).mp z
        omega
      have e2 : p n = true := (hp n (by omega)).mpr rfl
      rw [e1]
      simp [e2]
theorem meetR_one {L : List Int} (h : 0 < L.length) (a b : Int) : meetR L 0 L.length a b = [meetL L 0 a b] := by
  obtain ⟨m0, m1⟩ := meetL_rg (L := L) (t := 0) (x := a) (y := b) h
  unfold meetR
  rw [filt_range (m := (meetL L 0 a b).toNat) (by omega) fun k hk => ?_]
  · show [((0 + (meetL L 0 a b).toNat : Nat) : Int)] = _
    rw [Nat.zero_add, Int.toNat_of_nonneg m0]
  · rw [decide_eq_true_eq, Int.emod_eq_of_lt (by omega) (by omega)]
    omega
theorem keyP_mem {L : List Int} {t : Nat} {x y : Int} (hx : x ∈ L) (hy : y ∈ L) : (keyP (x, y)).1 ∈ L ∧ (keyP (x, y)).2 ∈ L ∧ meetL L t (keyP (x, y)).1 (keyP (x, y)).2 = meetL L t x y := by
  unfold keyP kmin kmax
  dsimp only
  by_cases h1 : y < x
  · rw [if_pos h1, if_neg (by omega)]
    exact ⟨hy, hx, meetL_comm ..⟩
  · rw [if_neg h1]
    by_cases h2 : y > x
    · rw [if_pos h2]
      exact ⟨hx, hy, rfl⟩
    · rw [if_neg h2]
      have : x = y := by omega
      subst this
      exact ⟨hx, hx, rfl⟩
theorem met_one {L : List Int} (ok : LineOk L) {x y : Int} (hx : x ∈ L) (hy : y ∈ L) : aget (metF L 0 L.length) (keyP (x, y)) = some [meetL L 0 x y] := by
  have lo := ok.lo
  obtain ⟨h1, h2, h3⟩ := keyP_mem (t := 0) hx hy
  have h4 := keyP_le (x, y)
  have := metF_get ok.nd lo (t := 0) (a := (keyP (x, y)).1) (b := (keyP (x, y)).2) L.length
  rw [meetR_one (by omega), h3] at this
  rw [if_pos ⟨h1, h2, h4, by simp⟩] at this
  exact this
theorem turn_sum {L : List Int} (h : 0 < L.length) (x y : Int) : (turnN L.length (L.idxOf x) + turnN L.length (L.idxOf y) + 1 + meetL L 0 x y) % (L.length : Int) = 0 := by
  unfold meetL
  rw [meet_turn, Int.add_comm _ ((-1 - _ - _) % _), Int.emod_add_emod]
  rw [show -1 - turnN L.length (L.idxOf x) - turnN L.length (L.idxOf y) + (turnN L.length (L.idxOf x) + turnN L.length (L.idxOf y) + 1) = 0 by omega]
  rfl
theorem walkZ {a b : List Int} : walked .zip [intsT a, intsL b] = some (List.zipWith (fun x y => PyData.tuple [.int x, .int y]) a b) := by
  show some (List.zipWith (fun x y => PyData.tuple [x, y]) (a.map .int) (b.map .int)) = _
  rw [List.zipWith_map]
structure K04 (cx : Ctx) (bg ln mt tk me tn : Nat) : Prop where
  bg : ∃ f, cx.fs[bg]? = some f ∧ BagF f
  ln : ∃ f, cx.fs[ln]? = some f ∧ LineOkF f
  mt : ∃ f, cx.fs[mt]? = some f ∧ MetF f
  tk : ∃ f, cx.fs[tk]? = some f ∧ TakeOk f
  me : ∃ f, cx.fs[me]? = some f ∧ MeetingF f
  tn : ∃ f, cx.fs[tn]? = some f ∧ TurnNumF f
def Q04 (ns : List Int) (ρ : Env) : Prop := ρ.length = 14 ∧ get ρ 0 = .fz (scrD ns)
/-- each couple beside its turn number -/
theorem zip_at {L : List Int} {f : Int → Int} {i : Nat} {x : D} (h : (List.zipWith (fun x y => PyData.tuple [.int x, .int y]) L (L.map f))[i]? = some x) : ∃ u, u ∈ L ∧ x = pairD (u, f u) := by
  rw [List.getElem?_zipWith, List.getElem?_map] at h
  cases hu : L[i]? with
  | none => rw [hu] at h; cases h
  | some u =>
    rw [hu] at h
    cases h
    exact ⟨u, List.mem_of_getElem? hu, rfl⟩
theorem turn04 {cx : Ctx} {bg ln mt tk me tn : Nat} (K : K04 cx bg ln mt tk me tn) {ns : List Int} {k : Nat} (hk : k ≤ 100) {ρ : Env} {T : D → Bool → Env → Prop} (hl : ρ.length = 14) (g0 : get ρ 0 = .fz (scrD ns)) (g1 : get ρ 1 = .fz (.int k)) :
    Fx (xec cx (law04C_b2 bg ln mt tk me tn) ρ) (Q04 ns) T := by
  obtain ⟨fb, hb, Hb⟩ := K.bg
  obtain ⟨fl, hln, Hln⟩ := K.ln
  obtain ⟨fmt, hmt, Hmt⟩ := K.mt
  obtain ⟨ft, htk, Htk⟩ := K.tk
  obtain ⟨fm, hme, Hme⟩ := K.me
  obtain ⟨fn, htn, Htn⟩ := K.tn
  obtain ⟨a, s, hbag, ok⟩ := callF_bag hb Hb ns hk
  obtain ⟨r, a1, s1, hr, r1, ok1⟩ := callF_takeN htk Htk (ρ := ρ.set 2 (.ow (bagD a s))) (i := 2) 2 (by simp [hl]) ok (by decide) (by decide)
  obtain ⟨m, hm, hix⟩ := ix2L 6 24 r1
  obtain ⟨L, a2, s2, hL, ok2, lok, _⟩ := callF_line hln Hln (ρ := (ρ.set 2 (.ow (bagD a s))).set 2 (.ow (bagD a1 s1))) (i := 2) (m := m) (by simp [hl]) ok1 (by omega) (by omega)
  simp at hr hL
  simp [law04C_b2, law04C_b2_1, law04C_b2_2, g0, g1, hbag, hl, hr, hix, hL, lenT]
  refine Fx_gen (P := fun ρ => ρ.length = 14 ∧ get ρ 0 = .fz (scrD ns) ∧ get ρ 3 = .fz (intsT L) ∧ get ρ 4 = .fz (.int L.length)) ⟨by simp [hl], by simp [g0], by simp [hl], by simp [hl]⟩ ?_
  clear hr hL hl g0 g1 hix hbag
  rintro ρ ⟨hl, g0, g3, g4⟩
  have lo := lok.lo
  have hi := lok.hi
  have hL : (0 : Int) < L.length := by omega
  have htn' : ∀ x ρ, x ∈ L → callF cx tn [.d (intsT L), .d (.int x)] ρ = .ok (.d (.int (turnN L.length (L.idxOf x))), ρ) := fun x ρ hx => callF_ok (fr := false) (ρ2 := ρ) htn Htn.1 rfl (Htn.2 L x lok hx)
  generalize hts : (L.map fun x => turnN L.length (L.idxOf x)) = ts
  have tl : ts.length = L.length := by rw [← hts, List.length_map]
  have hl0 : ev cx (law04C_l0 tn) ρ = .ok (.f (intsL ts), ρ) := by
    rw [← hts]
    unfold intsL
    rw [List.map_map]
    exact ev_lcI (rs := [.d (intsT L)]) (ds := [intsT L]) (fun x => .int (turnN L.length (L.idxOf x))) (by simp [g3]) rfl rfl (le_bigS (by omega)) fun x hx ρ1 e1 => ⟨.d (.int (turnN L.length (L.idxOf x))), by subst e1; simp [hl, g3, htn' _ _ hx], rfl⟩
  have hl1 : ev cx law04C_l1 (ρ.set 5 (.ow (intsL ts))) = .ok (.f (intsL ts), ρ.set 5 (.ow (intsL ts))) := by
    have e : intsL ts = .list (((List.range L.length).map fun (k : Nat) => (k : Int)).map fun k => PyData.int (turnN L.length k.toNat)) := by
      rw [← hts, turns_eq lok.nd]
      unfold intsL
      rw [List.map_map, List.map_map]
      rfl
    rw [show Rv.f (intsL ts) = Rv.f (.list (((List.range L.length).map fun (k : Nat) => (k : Int)).map fun k => PyData.int (turnN L.length k.toNat))) from congrArg Rv.f e]
    refine ev_lcI (rs := [.d (.int L.length)]) (ds := [.int L.length]) _ (by simp [g4]) rfl ?_ (by rw [List.length_map, List.length_range]; exact le_bigS (by omega)) fun x hx ρ1 e1 => ?_
    · rw [walk1 (by have := limN; omega), rangeD_ints]
      simp
    · obtain ⟨p, hp, rfl⟩ := List.mem_map.mp hx
      refine ⟨.d (.int (turnN L.length p)), ?_, rfl⟩
      subst e1
      by_cases h : p % 2 = 0
      · have h' : (p : Int) % 2 = 0 := by omega
        simp [hl, g4, modP, eqI, h', fdivP, turnN, h]
      · have h' : ¬ (p : Int) % 2 = 0 := by omega
        simp [hl, g4, modP, eqI, h', fdivP, subI, addI, turnN, h]
  have hso : fSorted (intsL ts) = some (.f (intsL ((List.range L.length).map fun (k : Nat) => (k : Int)))) := by
    refine fSortedL ?_ (le_bigS (by omega))
    refine sort_ints_to ?_ (List.pairwise_map.mpr (List.Pairwise.imp (fun {a b} h => by omega) List.pairwise_lt_range))
    rw [← hts, turns_eq lok.nd]
    exact turn_perm _
  have hMT : ∀ ρ, callF cx mt [.d (intsT L), .d (.int 0), .d (.int L.length)] ρ = .ok (.d (.tuple [.dict (dP (metF L 0 L.length)), intsT (lineF L 0 L.length)]), ρ) := fun ρ => callF_ok (fr := false) (ρ2 := ρ) hmt Hmt.1 rfl (Hmt.2 L 0 L.length lok (by omega))
  have hlr := lrangeN (n := L.length) (le_bigS (by omega))
  have hMd : ∀ x y ρ, x ∈ L → y ∈ L → callF cx me [.d (intsT L), .d (.int x), .d (.int y)] ρ = .ok (.d (.int (meetL L 0 x y)), ρ) := fun x y ρ hx hy => callF_ok (fr := false) (ρ2 := ρ) hme Hme.1 rfl (Hme.2 L x y lok hx hy)
  simp [law04C_b2_3, law04C_b2_4, law04C_b2_5, law04C_b2_6, hl, g3, g4, hl0, hl1, neL, hso, hlr, hMT, ix0]
  generalize hF : dP (metF L 0 L.length) = F
  refine Fx_gen (P := fun ρ => ρ.length = 14 ∧ get ρ 0 = .fz (scrD ns) ∧ get ρ 3 = .fz (intsT L) ∧ get ρ 4 = .fz (.int L.length) ∧ get ρ 5 = .ow (intsL ts) ∧ get ρ 6 = .fz (.dict F)) ⟨by simp [hl], by simp [g0], by simp [g3], by simp [g4], by simp [hl], by simp [hl]⟩ ?_
  clear hl0 hl1 hl g0 g3 g4
  rintro ρ ⟨hl, g0, g3, g4, g5, g6⟩
  simp [law04C_b2_7, g3, g5, hl, walkZ]
  simp only [Fx_seqX]
  refine Fx_for (fun _ ρ => ρ.length = 14 ∧ get ρ 0 = .fz (scrD ns) ∧ get ρ 3 = .fz (intsT L) ∧ get ρ 4 = .fz (.int L.length) ∧ get ρ 5 = .fz (intsL ts) ∧ get ρ 6 = .fz (.dict F)) ⟨by simp [hl], by simp [g0], by simp [g3], by simp [g4], by simp [hl], by simp [g6]⟩ (fun i x ρ hx h => ?_) fun ρ h => ?_
  · rw [← hts] at hx
    obtain ⟨u, mu, rfl⟩ := zip_at hx
    obtain ⟨hl, g0, g3, g4, g5, g6⟩ := h
    refine ⟨_, rfl, ?_⟩
    simp [law04C_b1, g3, g5, hl, walkZ]
    simp only [Fx_seqX]
    refine Fx_for (fun _ ρ => ρ.length = 14 ∧ get ρ 0 = .fz (scrD ns) ∧ get ρ 3 = .fz (intsT L) ∧ get ρ 4 = .fz (.int L.length) ∧ get ρ 5 = .fz (intsL ts) ∧ get ρ 6 = .fz (.dict F) ∧ get ρ 7 = .fz (.int u) ∧ get ρ 8 = .fz (.int (turnN L.length (L.idxOf u)))) ⟨by simp [hl], by simp [g0], by simp [g3], by simp [g4], by simp [g5], by simp [g6], by simp [hl], by simp [hl]⟩ (fun j y ρ hy h => ?_) fun ρ h => ?_
    · rw [← hts] at hy
      obtain ⟨v, mv, rfl⟩ := zip_at hy
      obtain ⟨hl, g0, g3, g4, g5, g6, g7, g8⟩ := h
      refine ⟨_, rfl, ?_⟩
      have hk : (PyData.tuple [.int (kmin u v), .int (kmax u v)]) = pairD (keyP (u, v)) := rfl
      have m1 : fMin2 (.int u) (.int v) = some (.d (.int (kmin u v))) := rfl
      have m2 : fMax2 (.int u) (.int v) = some (.d (.int (kmax u v))) := rfl
      have hg : method .get1 (.dict F) [pairD (keyP (u, v))] = some (.d (intsL [meetL L 0 u v])) := by
        rw [← hF, get1P, met_one lok mu mv]
        rfl
      have hdk : dkeys F = true := by rw [← hF]; exact dP_dkeys _
      have hsum := turn_sum (L := L) (by omega) u v
      simp [law04C_b0, law04C_b0_1, law04C_b0_2, hl, g3, g4, g6, g7, g8, hMd _ _ _ mu mv, -min2I, -max2I, m1, m2, hk, hdk, hg, neL1, addI, modP hL, neI, hsum]
      exact ⟨by simp [g0], by simp [g5]⟩
    · obtain ⟨hl, g0, g3, g4, g5, g6, _⟩ := h
      simp [hl, g0, g3, g4, g5, g6]
  · obtain ⟨hl, g0, _⟩ := h
    simp
    exact ⟨hl, g0⟩
theorem l4 : LineOk [0, 1, 2, 3] := ⟨by decide, by decide, by decide, by decide⟩
theorem l73 : LineOk [7, 3] := ⟨by decide, by decide, by decide, by decide⟩
theorem run04 {cx : Ctx} {bg ln mt tk me tn : Nat} (K : K04 cx bg ln mt tk me tn) (ns : List Int) : run cx 14 false (law04C bg ln mt tk me tn) [scrD ns] = .ok (.bool true) false := by
  refine run_Fx ?_
  obtain ⟨n, hn, hw⟩ := outer ns 6 (by decide)
  obtain ⟨fm, hme, Hme⟩ := K.me
  obtain ⟨fn, htn, Htn⟩ := K.tn
  have hl2 : ∀ ρ : Env, ρ.length = 14 → get ρ 3 = .fz (intsT [0, 1, 2, 3]) → ev cx (law04C_l2 tn) ρ = .ok (.f (intsL [0, 3, 1, 2]), ρ) := fun ρ hl g3 => by
    have e : intsL [0, 3, 1, 2] = .list (([0, 1, 2, 3] : List Int).map fun x => .int (turnN 4 (([0, 1, 2, 3] : List Int).idxOf x))) := rfl
    rw [show Rv.f (intsL [0, 3, 1, 2]) = Rv.f (.list (([0, 1, 2, 3] : List Int).map fun x => .int (turnN 4 (([0, 1, 2, 3] : List Int).idxOf x)))) from congrArg Rv.f e]
    refine ev_lcI (rs := [.d (intsT [0, 1, 2, 3])]) (ds := [intsT [0, 1, 2, 3]]) _ (by simp [g3]) rfl rfl (by decide) fun x hx ρ1 e1 => ?_
    have h2 := callF_ok (fr := false) (ρ2 := ρ1) (rs := [.d (intsT [0, 1, 2, 3]), .d (.int x)]) (ρ := ρ1) htn Htn.1 rfl (Htn.2 [0, 1, 2, 3] x l4 hx)
    refine ⟨.d (.int (turnN 4 (([0, 1, 2, 3] : List Int).idxOf x))), ?_, rfl⟩
    subst e1
    simp at h2
    simp [hl, g3, h2]
  have hM : ∀ (L : List Int) (x y : Int) ρ, LineOk L → x ∈ L → y ∈ L → callF cx me [.d (intsT L), .d (.int x), .d (.int y)] ρ = .ok (.d (.int (meetL L 0 x y)), ρ) := fun L x y ρ ok hx hy => callF_ok (fr := false) (ρ2 := ρ) hme Hme.1 rfl (Hme.2 L x y ok hx hy)
  have c1 := fun ρ => hM [0, 1, 2, 3] 0 3 ρ l4 (by decide) (by decide)
  have c2 := fun ρ => hM [0, 1, 2, 3] 2 1 ρ l4 (by decide) (by decide)
  have c3 := fun ρ => hM [0, 1, 2, 3] 0 0 ρ l4 (by decide) (by decide)
  have c4 := fun ρ => hM [7, 3] 3 7 ρ l73 (by decide) (by decide)
  rw [show meetL [0, 1, 2, 3] 0 0 3 = 1 by decide +kernel] at c1
  rw [show meetL [0, 1, 2, 3] 0 2 1 = 3 by decide +kernel] at c2
  rw [show meetL [0, 1, 2, 3] 0 0 0 = 3 by decide +kernel] at c3
  rw [show meetL [7, 3] 0 3 7 = 0 by decide +kernel] at c4
  have e1 := neL [0, 3, 1, 2] [0, 3, 1, 2]
  have e2 := eqL [1, 3, 3, 0] [1, 3, 3, 0]
  simp [intsT, intsL] at c1 c2 c3 c4 e1 e2 hl2
  show Fx (xec cx (law04C bg ln mt tk me tn) [.fz (scrD ns), .no, .no, .no, .no, .no, .no, .no, .no, .no, .no, .no, .no, .no]) _ _
  simp at hw
  simp [law04C, scrLen, addI, hw]
  simp only [Fx_seqX]
  refine Fx_for (fun _ => Q04 ns) ⟨rfl, rfl⟩ (fun i x ρ hx h => ?_) fun ρ h => ?_
  · obtain ⟨rfl, hi⟩ := rangeD_at hx
    refine ⟨_, rfl, turn04 K (k := i) (by omega) (by simp [h.1]) (by simp [h.2]) (by simp [h.1])⟩
  · obtain ⟨hl, g0⟩ := h
    simp [law04C_1, law04C_2, law04C_3, hl, hl2, c1, c2, c3, c4, e1, e2]
end Iv
set_option maxRecDepth 100000
set_option maxHeartbeats 4000000
/-! R4: the law k05. -/
namespace Iv
open PySem PySem.Spec PyProof.Rows L2
def law05C_b0 : S := (.seq (.set 9 (.v 11) (.op .Sub (.op .Add (.ix (.v 10) (.k (.int 0))) (.ix (.v 10) (.k (.int 1)))) (.v 5))) .nil)
def law05C_b1 : S := (.seq (.ife (.tr (.cmp .In (.v 5) (.v 10))) (.seq (.for (.n 11) .seq (.cons (.ix (.v 8) (.v 10)) .nil) law05C_b0) .nil) .nil) .nil)
def law05C_l0 (i_times_met : Nat) : C := (.lc [11] (.call i_times_met (.cons (.v 3) (.cons (.v 5) (.cons (.v 6) (.cons (.v 11) .nil))))) (.n 11) .seq (.cons (.tup (.cons (.v 14) (.cons (.op .Add (.v 14) (.k (.int 1))) .nil))) .nil) (.k (.bool true)))
def law05C_b2_15 (i_times_met : Nat) : S := (.seq (.ife (.tr (.cmp .NotEq (law05C_l0 i_times_met) (.lst (.cons (.k (.int 0)) (.cons (.k (.int 1)) .nil))))) (.seq (.ret (.k (.bool false))) .nil) .nil) .nil)
def law05C_b2_14 (i_meeting i_times_met : Nat) : S := (.seq (.asg 14 (.call i_meeting (.cons (.v 3) (.cons (.v 5) (.cons (.v 6) .nil))))) (law05C_b2_15 i_times_met))
def law05C_b2_13 (i_meeting i_partners i_times_met : Nat) : S := (.seq (.ife (.ort (.tr (.cmp .NotEq (.call i_partners (.cons (.v 3) (.cons (.v 5) (.cons (.op .Mult (.v 13) (.v 4)) (.cons (.v 7) .nil))))) (.v 9))) (.tr (.cmp .NotEq (.call i_times_met (.cons (.v 3) (.cons (.v 5) (.cons (.v 6) (.cons (.k (.int 0)) .nil))))) (.k (.int 0))))) (.seq (.ret (.k (.bool false))) .nil) .nil) (law05C_b2_14 i_meeting i_times_met))
def law05C_b2_12 (i_meeting i_partners i_times_met : Nat) : S := (.seq (.ife (.tr (.cmp .NotEq (.call i_times_met (.cons (.v 3) (.cons (.v 5) (.cons (.v 6) (.cons (.op .Add (.v 7) (.op .Mult (.v 12) (.v 4))) .nil))))) (.op .Add (.call i_times_met (.cons (.v 3) (.cons (.v 5) (.cons (.v 6) (.cons (.v 7) .nil))))) (.v 12)))) (.seq (.ret (.k (.bool false))) .nil) .nil) (law05C_b2_13 i_meeting i_partners i_times_met))
def law05C_b2_11 (i_law_take i_meeting i_partners i_times_met : Nat) : S := (.seq (.par [12, 13] (.cons (.call i_law_take (.cons (.v 2) (.cons (.op .Pow (.k (.int 10)) (.k (.int 10))) .nil))) (.cons (.call i_law_take (.cons (.v 2) (.cons (.op .Pow (.k (.int 10)) (.k (.int 10))) .nil))) .nil))) (law05C_b2_12 i_meeting i_partners i_times_met))
def law05C_b2_10 (i_law_take i_meeting i_partners i_times_met : Nat) : S := (.seq (.ife (.tr (.cmp .NotEq (.bi .sorted (.cons (.call i_partners (.cons (.v 3) (.cons (.v 5) (.cons (.call i_law_take (.cons (.v 2) (.cons (.op .Pow (.k (.int 10)) (.k (.int 12))) .nil))) (.cons (.v 4) .nil))))) .nil)) (.bi .sorted (.cons (.v 3) .nil)))) (.seq (.ret (.k (.bool false))) .nil) .nil) (law05C_b2_11 i_law_take i_meeting i_partners i_times_met))
def law05C_b2_9 (i_law_take i_meeting i_partners i_times_met : Nat) : S := (.seq (.ife (.tr (.cmp .NotEq (.call i_times_met (.cons (.v 3) (.cons (.v 5) (.cons (.v 6) (.cons (.v 7) .nil))))) (.bi .len (.cons (.me .get2 (.v 8) (.cons (.tup (.cons (.bi .min2 (.cons (.v 5) (.cons (.v 6) .nil))) (.cons (.bi .max2 (.cons (.v 5) (.cons (.v 6) .nil))) .nil))) (.cons (.lst .nil) .nil))) .nil)))) (.seq (.ret (.k (.bool false))) .nil) .nil) (law05C_b2_10 i_law_take i_meeting i_partners i_times_met))
def law05C_b2_8 (i_law_take i_meeting i_partners i_times_met : Nat) : S := (.seq (.ife (.tr (.cmp .NotEq (.call i_partners (.cons (.v 3) (.cons (.v 5) (.cons (.k (.int 0)) (.cons (.v 7) .nil))))) (.v 9))) (.seq (.ret (.k (.bool false))) .nil) .nil) (law05C_b2_9 i_law_take i_meeting i_partners i_times_met))
def law05C_b2_7 (i_law_take i_meeting i_partners i_times_met : Nat) : S := (.seq (.for (.n 10) .seq (.cons (.bi .sorted (.cons (.v 8) .nil)) .nil) law05C_b1) (law05C_b2_8 i_law_take i_meeting i_partners i_times_met))
def law05C_b2_6 (i_law_take i_meeting i_partners i_times_met : Nat) : S := (.seq (.asg 9 (.op .Mult (.lst (.cons (.k .none) .nil)) (.v 7))) (law05C_b2_7 i_law_take i_meeting i_partners i_times_met))
def law05C_b2_5 (i_law_met i_law_take i_meeting i_partners i_times_met : Nat) : S := (.seq (.asg 8 (.ix (.call i_law_met (.cons (.v 3) (.cons (.k (.int 0)) (.cons (.v 7) .nil)))) (.k (.int 0)))) (law05C_b2_6 i_law_take i_meeting i_partners i_times_met))
def law05C_b2_4 (i_law_met i_law_take i_meeting i_partners i_times_met : Nat) : S := (.seq (.asg 7 (.call i_law_take (.cons (.v 2) (.cons (.k (.int 101)) .nil)))) (law05C_b2_5 i_law_met i_law_take i_meeting i_partners i_times_met))
def law05C_b2_3 (i_law_met i_law_of i_law_take i_meeting i_partners i_times_met : Nat) : S := (.seq (.asgT [5, 6] (.tup (.cons (.call i_law_of (.cons (.v 2) (.cons (.v 3) .nil))) (.cons (.call i_law_of (.cons (.v 2) (.cons (.v 3) .nil))) .nil)))) (law05C_b2_4 i_law_met i_law_take i_meeting i_partners i_times_met))
def law05C_b2_2 (i_law_met i_law_of i_law_take i_meeting i_partners i_times_met : Nat) : S := (.seq (.asg 4 (.bi .len (.cons (.v 3) .nil))) (law05C_b2_3 i_law_met i_law_of i_law_take i_meeting i_partners i_times_met))
def law05C_b2_1 (i_law_line i_law_met i_law_of i_law_take i_meeting i_partners i_times_met : Nat) : S := (.seq (.asg 3 (.call i_law_line (.cons (.v 2) (.cons (.ix (.lst (.cons (.k (.int 5)) (.cons (.k (.int 24)) .nil))) (.call i_law_take (.cons (.v 2) (.cons (.k (.int 2)) .nil)))) .nil)))) (law05C_b2_2 i_law_met i_law_of i_law_take i_meeting i_partners i_times_met))
def law05C_b2 (i_law_bag i_law_line i_law_met i_law_of i_law_take i_meeting i_partners i_times_met : Nat) : S := (.seq (.asg 2 (.call i_law_bag (.cons (.v 0) (.cons (.v 1) .nil)))) (law05C_b2_1 i_law_line i_law_met i_law_of i_law_take i_meeting i_partners i_times_met))
def law05C_4 (i_times_met : Nat) : S := (.seq (.ret (.cmp .Eq (.call i_times_met (.cons (.v 3) (.cons (.k (.int 0)) (.cons (.k (.int 1)) (.cons (.op .Pow (.k (.int 10)) (.k (.int 12))) .nil))))) (.k (.int 250000000000)))) .nil)
def law05C_3 (i_times_met : Nat) : S := (.seq (.ife (.ort (.tr (.cmp .NotEq (.call i_times_met (.cons (.v 3) (.cons (.k (.int 0)) (.cons (.k (.int 1)) (.cons (.k (.int 10)) .nil))))) (.k (.int 3)))) (.tr (.cmp .NotEq (.call i_times_met (.cons (.v 3) (.cons (.k (.int 0)) (.cons (.k (.int 0)) (.cons (.k (.int 3)) .nil))))) (.k (.int 0))))) (.seq (.ret (.k (.bool false))) .nil) .nil) (law05C_4 i_times_met))
def law05C_2 (i_partners i_times_met : Nat) : S := (.seq (.ife (.ort (.tr (.cmp .NotEq (.call i_partners (.cons (.v 3) (.cons (.k (.int 0)) (.cons (.k (.int 0)) (.cons (.k (.int 4)) .nil))))) (.lst (.cons (.k (.int 1)) (.cons (.k (.int 3)) (.cons (.k (.int 2)) (.cons (.k (.int 0)) .nil))))))) (.tr (.cmp .NotEq (.call i_partners (.cons (.v 3) (.cons (.k (.int 1)) (.cons (.op .Pow (.k (.int 10)) (.k (.int 12))) (.cons (.k (.int 2)) .nil))))) (.lst (.cons (.k (.int 0)) (.cons (.k (.int 1)) .nil)))))) (.seq (.ret (.k (.bool false))) .nil) .nil) (law05C_3 i_times_met))
def law05C_1 (i_partners i_times_met : Nat) : S := (.seq (.asg 3 (.tup (.cons (.k (.int 0)) (.cons (.k (.int 1)) (.cons (.k (.int 2)) (.cons (.k (.int 3)) .nil)))))) (law05C_2 i_partners i_times_met))
def law05C (i_law_bag i_law_line i_law_met i_law_of i_law_take i_meeting i_partners i_times_met : Nat) : S := (.seq (.for (.n 1) .r1 (.cons (.op .Add (.bi .min2 (.cons (.bi .len (.cons (.v 0) .nil)) (.cons (.k (.int 6)) .nil))) (.k (.int 2))) .nil) (law05C_b2 i_law_bag i_law_line i_law_met i_law_of i_law_take i_meeting i_partners i_times_met)) (law05C_1 i_partners i_times_met))
theorem mem_meetR {L : List Int} {t many : Nat} {a b v : Int} : v ∈ meetR L t many a b ↔ ∃ r, r < many ∧ (r : Int) % L.length = meetL L t a b ∧ v = ((t + r : Nat) : Int) := by
  unfold meetR
  rw [List.mem_map]
  constructor
  · rintro ⟨r, hr, rfl⟩
    obtain ⟨h1, h2⟩ := List.mem_filter.mp hr
    exact ⟨r, List.mem_range.mp h1, by simpa using h2, rfl⟩
  · rintro ⟨r, h1, h2, rfl⟩
    exact ⟨r, List.mem_filter.mpr ⟨List.mem_range.mpr h1, by simpa using h2⟩, rfl⟩
theorem mod_sub {n m r : Int} (h0 : 0 ≤ m) (h1 : m < n) : r % n = m ↔ (r - m) % n = 0 := by
  have := Int.emod_eq_emod_iff_emod_sub_eq_zero (m := r) (n := n) (k := m)
  rw [Int.emod_eq_of_lt h0 h1] at this
  exact this
theorem often_count {L : List Int} (h : 0 < L.length) {t : Nat} {a b : Int} : ∀ many : Nat, ((meetR L t many a b).length : Int) = oftenI L.length (meetL L t a b) many
  | 0 => by
    obtain ⟨m0, m1⟩ := meetL_rg (L := L) (t := t) (x := a) (y := b) h
    unfold oftenI
    rw [if_pos (by omega)]
    rfl
  | r + 1 => by
    obtain ⟨m0, m1⟩ := meetL_rg (L := L) (t := t) (x := a) (y := b) h
    have es : (meetR L t (r + 1) a b).length = (meetR L t r a b).length + if (r : Int) % L.length = meetL L t a b then 1 else 0 := by
      unfold meetR
      rw [List.length_map, List.length_map, List.range_succ, List.filter_append, List.length_append]
      by_cases h : (r : Int) % L.length = meetL L t a b <;> simp [h]
    have hsucc := often_succ (n := (L.length : Int)) (f := meetL L t a b) (x := (r : Int)) (by omega) m0 m1 (by omega)
    rw [es]
    have e2 : oftenI L.length (meetL L t a b) ((r + 1 : Nat) : Int) = oftenI L.length (meetL L t a b) r + if ((r : Int) - meetL L t a b) % (L.length : Int) = 0 then 1 else 0 := by
      rw [show ((r + 1 : Nat) : Int) = (r : Int) + 1 by omega]
      exact hsucc
    rw [e2, ← often_count h r]
    have e3 := mod_sub (r := (r : Int)) m0 m1
    by_cases h : (r : Int) % L.length = meetL L t a b
    · rw [if_pos h, if_pos (e3.mp h)]
      omega
    · rw [if_neg h, if_neg (fun z => h (e3.mpr z))]
      omega
theorem often_add {n m k : Int} (h0 : 0 ≤ m) (h1 : m < n) (hk : 0 ≤ k) : oftenI n m (k + n) = oftenI n m k + 1 := by
  unfold oftenI
  rw [if_neg (by omega)]
  by_cases h : k ≤ m
  · rw [if_pos h, Int.ediv_eq_zero_of_lt (by omega) (by omega)]
  · rw [if_neg h, show k + n - 1 - m = (k - 1 - m) + n * 1 by omega, Int.add_mul_ediv_left _ _ (by omega)]
theorem often_addN {n m k : Int} (h0 : 0 ≤ m) (h1 : m < n) (hk : 0 ≤ k) : ∀ f : Nat, oftenI n m (k + f * n) = oftenI n m k + f
  | 0 => by simp
  | f + 1 => by
    have e : k + ((f + 1 : Nat) : Int) * n = (k + f * n) + n := by
      rw [Int.natCast_add, Int.add_mul]
      simp
      omega
    rw [e, often_add h0 h1 (by have := Int.mul_nonneg (show (0 : Int) ≤ f by omega) (show 0 ≤ n by omega); omega), often_addN h0 h1 hk f]
    omega
theorem partL_mod {L : List Int} (x r k : Int) : partL L x (r + k * L.length) = partL L x r := by
  unfold partL
  rw [Int.add_mul_emod_self_right]
theorem parts_mod {L : List Int} (x k : Int) (many : Nat) : partsL L x (k * L.length) many = partsL L x 0 many := by
  unfold partsL
  apply List.map_congr_left
  intro j _
  rw [show k * (L.length : Int) + j = (0 + j) + k * L.length by omega, partL_mod]
theorem parts_perm {L : List Int} (nd : L.Nodup) {x first : Int} (hx : x ∈ L) (h0 : 0 ≤ first) : List.Perm (partsL L x first L.length) L := by
  have hL : (0 : Int) < L.length := by have := idx_lt hx; omega
  refine (List.perm_ext_iff_of_nodup ?_ nd).mpr fun y => ?_
  · unfold partsL
    refine List.pairwise_map.mpr (List.Pairwise.imp_of_mem (fun {i j} hi hj hlt e => ?_) List.pairwise_lt_range)
    have hi := List.mem_range.mp hi
    have hj := List.mem_range.mp hj
    have e1 := (partL_mem nd hx (r := first + i) (by omega)).2
    have e2 := (partL_mem nd hx (r := first + j) (by omega)).2
    rw [e, e2, Int.emod_eq_emod_iff_emod_sub_eq_zero, show first + (j : Int) - (first + i) = (j : Int) - i by omega, Int.emod_eq_of_lt (by omega) (by omega)] at e1
    omega
  · unfold partsL
    constructor
    · intro h
      obtain ⟨k, _, rfl⟩ := List.mem_map.mp h
      exact (partL_mem nd hx (by omega)).1
    · intro hy
      obtain ⟨m0, m1⟩ := meetL_rg (L := L) (t := 0) (x := x) (y := y) (by omega)
      have k0 := Int.emod_nonneg (meetL L 0 x y - first) (show (L.length : Int) ≠ 0 by omega)
      have k1 := Int.emod_lt_of_pos (meetL L 0 x y - first) hL
      refine List.mem_map.mpr ⟨((meetL L 0 x y - first) % L.length).toNat, List.mem_range.mpr (by omega), partL_eq hx hy ?_⟩
      rw [Int.toNat_of_nonneg k0, Int.add_comm, Int.emod_add_emod, show meetL L 0 x y - first + first = meetL L 0 x y by omega, Int.emod_eq_of_lt m0 m1]
theorem sortD_pairs (l : List (Int × Int)) : ∃ ps : List (Int × Int), sortD (l.map pairD) = ps.map pairD ∧ List.Perm ps l := by
  have hp : List.Perm (sortD (l.map pairD)) (l.map pairD) := List.mergeSort_perm _ _
  let un : D → Int × Int := fun d => match d with | .tuple [.int a, .int b] => (a, b) | _ => (0, 0)
  have hi : ∀ d ∈ sortD (l.map pairD), d = pairD (un d) := fun d hd => by
    obtain ⟨i, _, rfl⟩ := List.mem_map.mp (hp.mem_iff.mp hd)
    rfl
  have e : sortD (l.map pairD) = ((sortD (l.map pairD)).map un).map pairD := by
    rw [List.map_map]
    conv => lhs; rw [← List.map_id (sortD (l.map pairD))]
    exact List.map_congr_left fun d hd => hi d hd
  have q : List.Perm ((sortD (l.map pairD)).map un) l := by
    have := hp.map un
    rw [List.map_map] at this
    have e2 : l.map (un ∘ pairD) = l := by
      conv => rhs; rw [← List.map_id l]
      rfl
    rwa [e2] at this
  exact ⟨_, e, q⟩
theorem aget_mem {kvs : Tab} {p : Int × Int} (h : p ∈ kvs.map (·.1)) : ∃ l, aget kvs p = some l := by
  cases e : aget kvs p with
  | some l => exact ⟨l, rfl⟩
  | none =>
    exfalso
    obtain ⟨q, hq, rfl⟩ := List.mem_map.mp h
    have := aget_none.mp e
    rw [List.any_eq_false] at this
    exact this q hq (decide_eq_true rfl)
theorem mem_aget {kvs : Tab} {p : Int × Int} {l : List Int} (h : aget kvs p = some l) : p ∈ kvs.map (·.1) := by
  unfold aget at h
  obtain ⟨q, hq, _⟩ := Option.map_eq_some_iff.mp h
  have h1 := List.mem_of_find?_eq_some hq
  have h2 := List.find?_some hq
  rw [decide_eq_true_eq] at h2
  exact List.mem_map.mpr ⟨q, h1, h2⟩
theorem ixP {kvs : Tab} {p : Int × Int} {l : List Int} (h : aget kvs p = some l) : index (.dict (dP kvs)) (pairD p) = some (.d (intsL l)) := ixD (dP_dkeys _) (dP_ok _ _) (by rw [dval_dP, h]; rfl)
theorem sorted_keys {kvs : Tab} (h : kvs.length ≤ big) : ∃ ps : List (Int × Int), fSorted (.dict (dP kvs)) = some (.f (.list (ps.map pairD))) ∧ List.Perm ps (kvs.map (·.1)) := by
  obtain ⟨ps, e, q⟩ := sortD_pairs (kvs.map (·.1))
  refine ⟨ps, ?_, q⟩
  unfold fSorted
  have e1 : itemsOf (.dict (dP kvs)) = some ((kvs.map (·.1)).map pairD) := by
    show (if dkeys (dP kvs) = true then some ((dP kvs).map (·.1)) else none) = _
    rw [if_pos (dP_dkeys _)]
    unfold dP
    rw [List.map_map, List.map_map]
    rfl
  rw [e1, Option.bind_some, sorts_pairs _ (by rw [List.length_map]; exact h), e]
  rfl

structure K05 (cx : Ctx) (bg ln mt of tk me pa ti : Nat) : Prop where
  bg : ∃ f, cx.fs[bg]? = some f ∧ BagF f
  ln : ∃ f, cx.fs[ln]? = some f ∧ LineOkF f
  mt : ∃ f, cx.fs[mt]? = some f ∧ MetF f
  of : ∃ f, cx.fs[of]? = some f ∧ OfG f
  tk : ∃ f, cx.fs[tk]? = some f ∧ TakeOk f
  me : ∃ f, cx.fs[me]? = some f ∧ MeetingF f
  pa : ∃ f, cx.fs[pa]? = some f ∧ PartnersF f
  ti : ∃ f, cx.fs[ti]? = some f ∧ TimesF f
def Q05 (ns : List Int) (ρ : Env) : Prop := ρ.length = 15 ∧ get ρ 0 = .fz (scrD ns)
/-- what is filled in so far -/
def Due (L : List Int) (x : Int) (many : Nat) (done : Int → Prop) (due : List D) : Prop := due.length = many ∧ ∀ r, r < many → done r → due[r]? = some (.int (partL L x r))
theorem Due.set {L : List Int} {x : Int} {many : Nat} {done done' : Int → Prop} {due : List D} {r : Nat} (h : Due L x many done due) (hd : ∀ v, done' v → done v ∨ v = r) : Due L x many done' (due.set r (.int (partL L x r))) := by
  refine ⟨by rw [List.length_set]; exact h.1, fun k hk hdk => ?_⟩
  by_cases e : r = k
  · subst e
    rw [List.getElem?_set_self (by rw [h.1]; exact hk)]
  · rw [List.getElem?_set_ne e]
    rcases hd k hdk with q | q
    · exact h.2 k hk q
    · omega
/-- the numbers of one key filled in -/
theorem fill_in {cx : Ctx} {L : List Int} {x : Int} {many : Nat} {p : Int × Int} {T : D → Bool → Env → Prop} (hx : x ∈ L) (hp1 : p.1 ∈ L) (hp2 : p.2 ∈ L) (hxp : x = p.1 ∨ x = p.2) {done : Int → Prop} (P : Env → Prop) (hP : ∀ ρ i v, P ρ → i = 9 ∨ i = 11 → P (ρ.set i v)) {N : Env → Prop} {ρ : Env} (hl : ρ.length = 15) (g5 : get ρ 5 = .fz (.int x)) (g10 : get ρ 10 = .fz (pairD p)) {due : List D} (g9 : get ρ 9 = .ow (.list due)) (hdue : Due L x many done due) (hPρ : P ρ)
    (hN : ∀ ρ due, ρ.length = 15 → get ρ 9 = .ow (.list due) → Due L x many (fun v => done v ∨ v ∈ meetR L 0 many p.1 p.2) due → get ρ 5 = .fz (.int x) → P ρ → N ρ) : Fx (forGo (xec cx law05C_b0) (.n 11) ((meetR L 0 many p.1 p.2).map .int) ρ) N T := by
  refine Fx_for (fun i ρ => ρ.length = 15 ∧ get ρ 5 = .fz (.int x) ∧ get ρ 10 = .fz (pairD p) ∧ P ρ ∧ ∃ due, get ρ 9 = .ow (.list due) ∧ Due L x many (fun v => done v ∨ v ∈ (meetR L 0 many p.1 p.2).take i) due) ⟨hl, g5, g10, hPρ, due, g9, hdue.1, fun r hr h => hdue.2 r hr (h.resolve_right (by simp))⟩ (fun i y ρ hy h => ?_) fun ρ h => ?_
  · rw [List.getElem?_map] at hy
    obtain ⟨v, hv, rfl⟩ := Option.map_eq_some_iff.mp hy
    obtain ⟨hl, g5, g10, hPρ, due, g9, hdue⟩ := h
    obtain ⟨r, hr, hm, rfl⟩ := mem_meetR.mp (List.mem_of_getElem? hv)
    rw [Nat.zero_add] at hv ⊢
    have e0 : index (pairD p) (.int 0) = some (.d (.int p.1)) := ix0
    have e1 : index (pairD p) (.int 1) = some (.d (.int p.2)) := ix1
    have ep : p.1 + p.2 - x = partL L x r := by
      rcases hxp with e | e
      · subst e
        rw [partL_eq hp1 hp2 hm.symm]
        omega
      · subst e
        rw [partL_eq hp2 hp1 (by rw [meetL_comm]; exact hm.symm)]
        omega
    refine ⟨_, rfl, ?_⟩
    have hs := setL (xs := due) (k := r) (v := .int (partL L x r)) (by rw [hdue.1]; exact hr)
    simp [law05C_b0, hl, g5, g10, g9, e0, e1, addI, subI, ep, hs]
    refine ⟨hP _ _ _ (hP _ _ _ hPρ (by simp)) (by simp), hdue.set fun w hw => ?_⟩
    rcases hw with hw | hw
    · exact .inl (.inl hw)
    · rw [take_at hv] at hw
      rcases List.mem_append.mp hw with hw | hw
      · exact .inl (.inr hw)
      · rw [List.mem_singleton] at hw
        exact .inr hw
  · obtain ⟨hl, g5, g10, hPρ, due, g9, hdue⟩ := h
    rw [List.length_map, List.take_length] at hdue
    exact hN ρ due hl g9 hdue g5 hPρ
theorem repN (many : Nat) (h : many ≤ 1000) : binop .Mult (.list [.none]) (.int many) = some (.f (.list (List.replicate many .none))) := by
  show (if 0 ≤ (many : Int) ∧ (many : Int) ≤ 1000 ∧ 1 ≤ 1000 then some (Rv.f (.list (List.replicate (many : Int).toNat [PyData.none]).flatten)) else none) = _
  rw [if_pos ⟨by omega, by omega, by decide⟩, Int.toNat_natCast]
  congr 3
  induction many with
  | zero => rfl
  | succ n ih => rw [List.replicate_succ, List.flatten_cons, ih (by omega), List.replicate_succ]; rfl
theorem inP (x : Int) (p : Int × Int) : cmpop .In (.int x) (pairD p) = some (decide (x = p.1 ∨ x = p.2)) := by
  have := inT [p.1, p.2] x
  rw [show intsT [p.1, p.2] = pairD p from rfl] at this
  rw [this]
  simp
theorem fill_all {cx : Ctx} {L : List Int} {x : Int} {many : Nat} {ps : List (Int × Int)} {T : D → Bool → Env → Prop} (lok : LineOk L) (hx : x ∈ L) (hm : many ≤ 1000) (hps : ∀ p ∈ ps, ∃ l, aget (metF L 0 many) p = some l) (hps2 : ∀ p l, aget (metF L 0 many) p = some l → p ∈ ps) (P : Env → Prop) (hP : ∀ ρ i v, P ρ → i = 9 ∨ i = 10 ∨ i = 11 → P (ρ.set i v)) {N : Env → Prop} {ρ : Env} (hl : ρ.length = 15) (g5 : get ρ 5 = .fz (.int x)) (g8 : ∀ ρ, P ρ → get ρ 8 = .fz (.dict (dP (metF L 0 many)))) (g9 : get ρ 9 = .ow (.list (List.replicate many .none))) (hPρ : P ρ)
    (hN : ∀ ρ, ρ.length = 15 → get ρ 9 = .ow (intsL (partsL L x 0 many)) → get ρ 5 = .fz (.int x) → P ρ → N ρ) : Fx (forGo (xec cx law05C_b1) (.n 10) (ps.map pairD) ρ) N T := by
  have lo := lok.lo
  refine Fx_for (fun i ρ => ρ.length = 15 ∧ get ρ 5 = .fz (.int x) ∧ P ρ ∧ ∃ due, get ρ 9 = .ow (.list due) ∧ Due L x many (fun v => ∃ q ∈ ps.take i, (x = q.1 ∨ x = q.2) ∧ v ∈ meetR L 0 many q.1 q.2) due) ⟨hl, g5, hPρ, _, g9, by simp, fun r hr h => by obtain ⟨q, hq, _⟩ := h; simp at hq⟩ (fun i y ρ hy h => ?_) fun ρ h => ?_
  · rw [List.getElem?_map] at hy
    obtain ⟨p, hp, rfl⟩ := Option.map_eq_some_iff.mp hy
    obtain ⟨hl, g5, hPρ, due, g9, hdue⟩ := h
    obtain ⟨l, hget⟩ := hps p (List.mem_of_getElem? hp)
    have hget' := hget
    obtain ⟨a, b⟩ := p
    rw [metF_get lok.nd lo] at hget'
    split at hget'
    · rename_i hc
      obtain ⟨ha, hb, hab, _⟩ := hc
      cases hget'
      have hix := ixP hget
      have g8' := g8 ρ hPρ
      refine ⟨_, rfl, ?_⟩
      by_cases hxp : x = a ∨ x = b
      · have hin := inP x (a, b)
        rw [decide_eq_true (show x = (a, b).1 ∨ x = (a, b).2 from hxp)] at hin
        simp [law05C_b1, hl, g5, hin, g8', hix, walkIL]
        simp only [Fx_seqX]
        refine fill_in (p := (a, b)) hx ha hb hxp (fun ρ => P ρ) (fun ρ i v h hi => hP ρ i v h (by omega)) (by simp [hl]) (by simp [g5]) (by simp [hl]) (due := due) (by simp [g9]) hdue (hP _ _ _ hPρ (by simp)) fun ρ due' h1 h2 h3 h4 h5 => ?_
        simp
        refine ⟨h1, h4, h5, due', h2, h3.1, fun r hr hd => h3.2 r hr ?_⟩
        obtain ⟨q1, q2, hq, hd⟩ := hd
        rw [take_at hp] at hq
        rcases List.mem_append.mp hq with hq | hq
        · exact .inl ⟨(q1, q2), hq, hd⟩
        · rw [List.mem_singleton] at hq
          cases hq
          exact .inr hd.2
      · have hin := inP x (a, b)
        rw [decide_eq_false (show ¬ (x = (a, b).1 ∨ x = (a, b).2) from hxp)] at hin
        simp [law05C_b1, hl, g5, hin]
        refine ⟨hP _ _ _ hPρ (by simp), due, g9, hdue.1, fun r hr hd => hdue.2 r hr ?_⟩
        obtain ⟨q1, q2, hq, hd⟩ := hd
        rw [take_at hp] at hq
        rcases List.mem_append.mp hq with hq | hq
        · exact ⟨(q1, q2), hq, hd⟩
        · rw [List.mem_singleton] at hq
          cases hq
          exact absurd hd.1 hxp
    · cases hget'
  · obtain ⟨hl, g5, hPρ, due, g9, hdue⟩ := h
    rw [List.length_map, List.take_length] at hdue
    refine hN ρ hl ?_ g5 hPρ
    rw [g9]
    congr 1
    unfold intsL partsL
    congr 1
    rw [List.map_map]
    apply List.ext_getElem?
    intro r
    by_cases hr : r < many
    · obtain ⟨m1, m2⟩ := partL_mem lok.nd hx (r := (r : Int)) (by omega)
      obtain ⟨k1, k2, k3⟩ := keyP_mem (t := 0) hx m1
      have hk := keyP_le (x, partL L x r)
      have hmem : (r : Int) ∈ meetR L 0 many (keyP (x, partL L x r)).1 (keyP (x, partL L x r)).2 := mem_meetR.mpr ⟨r, hr, by rw [k3]; exact m2.symm, by omega⟩
      have hg := metF_get lok.nd lo (t := 0) (a := (keyP (x, partL L x r)).1) (b := (keyP (x, partL L x r)).2) many
      rw [if_pos ⟨k1, k2, hk, fun z => by rw [z] at hmem; cases hmem⟩] at hg
      have hin := hps2 _ _ hg
      have hxk : x = (keyP (x, partL L x r)).1 ∨ x = (keyP (x, partL L x r)).2 := by
        unfold keyP kmin kmax
        dsimp only
        split
        · right; split <;> omega
        · left; rfl
      rw [hdue.2 r hr ⟨_, hin, hxk, hmem⟩]
      simp [hr]
    · rw [List.getElem?_eq_none (by rw [hdue.1]; omega), List.getElem?_eq_none (by rw [List.length_map, List.length_range]; omega)]
theorem turn05 {cx : Ctx} {bg ln mt of tk me pa ti : Nat} (K : K05 cx bg ln mt of tk me pa ti) {ns : List Int} {k : Nat} (hk : k ≤ 100) {ρ : Env} {T : D → Bool → Env → Prop} (hl : ρ.length = 15) (g0 : get ρ 0 = .fz (scrD ns)) (g1 : get ρ 1 = .fz (.int k)) :
    Fx (xec cx (law05C_b2 bg ln mt of tk me pa ti) ρ) (Q05 ns) T := by
  obtain ⟨fb, hb, Hb⟩ := K.bg
  obtain ⟨fl, hln, Hln⟩ := K.ln
  obtain ⟨fmt, hmt, Hmt⟩ := K.mt
  obtain ⟨fo, hof, Hof⟩ := K.of
  obtain ⟨ft, htk, Htk⟩ := K.tk
  obtain ⟨fm, hme, Hme⟩ := K.me
  obtain ⟨fp, hpa, Hpa⟩ := K.pa
  obtain ⟨fe, hti, Hti⟩ := K.ti
  obtain ⟨a, s, hbag, ok⟩ := callF_bag hb Hb ns hk
  obtain ⟨r, a1, s1, hr, r1, ok1⟩ := callF_takeN htk Htk (ρ := ρ.set 2 (.ow (bagD a s))) (i := 2) 2 (by simp [hl]) ok (by decide) (by decide)
  obtain ⟨m, hm, hix⟩ := ix2L 5 24 r1
  obtain ⟨L, a2, s2, hL, ok2, lok, _⟩ := callF_line hln Hln (ρ := (ρ.set 2 (.ow (bagD a s))).set 2 (.ow (bagD a1 s1))) (i := 2) (m := m) (by simp [hl]) ok1 (by omega) (by omega)
  simp at hr hL
  simp [law05C_b2, law05C_b2_1, law05C_b2_2, g0, g1, hbag, hl, hr, hix, hL, lenT]
  refine Fx_gen (P := fun ρ => ρ.length = 15 ∧ get ρ 0 = .fz (scrD ns) ∧ get ρ 2 = .ow (bagD a2 s2) ∧ get ρ 3 = .fz (intsT L) ∧ get ρ 4 = .fz (.int L.length)) ⟨by simp [hl], by simp [g0], by simp [hl], by simp [hl], by simp [hl]⟩ ?_
  clear hr hL hl g0 g1 hix hbag
  rintro ρ ⟨hl, g0, g2, g3, g4⟩
  have lo := lok.lo
  have hi := lok.hi
  have hL : (0 : Int) < L.length := by omega
  -- two couples, how many rounds
  obtain ⟨u, a3, s3, hu, mu, ok3⟩ := callF_of hof Hof (ρ := ρ) (ρ2 := ρ) (i := 2) (r := .d (intsT L)) (xs := L.map .int) rfl rfl g2 ok2 (by rw [List.length_map]; omega) (by rw [List.length_map]; omega)
  obtain ⟨x, hx, rfl⟩ := intL_of rfl mu
  obtain ⟨v, a4, s4, hv, mv, ok4⟩ := callF_of hof Hof (ρ := ρ.set 2 (.ow (bagD a3 s3))) (ρ2 := ρ.set 2 (.ow (bagD a3 s3))) (i := 2) (r := .d (intsT L)) (xs := L.map .int) rfl rfl (by simp [hl]) ok3 (by rw [List.length_map]; omega) (by rw [List.length_map]; omega)
  obtain ⟨y, hy, rfl⟩ := intL_of rfl mv
  clear mu mv
  simp at hv
  simp [law05C_b2_3, hl, g2, g3, hu, hv]
  refine Fx_gen (P := fun ρ => ρ.length = 15 ∧ get ρ 0 = .fz (scrD ns) ∧ get ρ 2 = .ow (bagD a4 s4) ∧ get ρ 3 = .fz (intsT L) ∧ get ρ 4 = .fz (.int L.length) ∧ get ρ 5 = .fz (.int x) ∧ get ρ 6 = .fz (.int y)) ⟨by simp [hl], by simp [g0], by simp [hl], by simp [g3], by simp [g4], by simp [hl], by simp [hl]⟩ ?_
  clear hu hv hl g0 g2 g3 g4
  rintro ρ ⟨hl, g0, g2, g3, g4, g5, g6⟩
  obtain ⟨many, a5, s5, hmy, hmany, ok5⟩ := callF_takeN htk Htk (ρ := ρ) (i := 2) 101 g2 ok4 (by decide) (by decide)
  have hMT : ∀ ρ, callF cx mt [.d (intsT L), .d (.int 0), .d (.int many)] ρ = .ok (.d (.tuple [.dict (dP (metF L 0 many)), intsT (lineF L 0 many)]), ρ) := fun ρ => callF_ok (fr := false) (ρ2 := ρ) hmt Hmt.1 rfl (Hmt.2 L 0 many lok (by omega))
  have hlen := metF_len L 0 many
  have hmul : many * (2 * L.length) ≤ 1000 * 48 := Nat.mul_le_mul (by omega) (by omega)
  obtain ⟨ps, hso, hperm⟩ := sorted_keys (kvs := metF L 0 many) (le_bigS (by omega))
  simp at hmy
  simp [law05C_b2_4, law05C_b2_5, law05C_b2_6, hl, g2, g3, hmy, hMT, ix0, repN many (by omega)]
  refine Fx_gen (P := fun ρ => ρ.length = 15 ∧ get ρ 0 = .fz (scrD ns) ∧ get ρ 2 = .ow (bagD a5 s5) ∧ get ρ 3 = .fz (intsT L) ∧ get ρ 4 = .fz (.int L.length) ∧ get ρ 5 = .fz (.int x) ∧ get ρ 6 = .fz (.int y) ∧ get ρ 7 = .fz (.int many) ∧ get ρ 8 = .fz (.dict (dP (metF L 0 many))) ∧ get ρ 9 = .ow (.list (List.replicate many .none))) ⟨by simp [hl], by simp [g0], by simp [hl], by simp [g3], by simp [g4], by simp [g5], by simp [g6], by simp [hl], by simp [hl], by simp [hl]⟩ ?_
  clear hmy hl g0 g2 g3 g4 g5 g6
  rintro ρ ⟨hl, g0, g2, g3, g4, g5, g6, g7, g8, g9⟩
  simp [law05C_b2_7, g8, hso, walkL]
  simp only [Fx_seqX]
  refine fill_all lok hx (by omega) (fun p hp => aget_mem (hperm.mem_iff.mp hp)) (fun p l h => hperm.mem_iff.mpr (mem_aget h)) (fun ρ => get ρ 0 = .fz (scrD ns) ∧ get ρ 2 = .ow (bagD a5 s5) ∧ get ρ 3 = .fz (intsT L) ∧ get ρ 4 = .fz (.int L.length) ∧ get ρ 6 = .fz (.int y) ∧ get ρ 7 = .fz (.int many) ∧ get ρ 8 = .fz (.dict (dP (metF L 0 many))))
    (fun ρ i v h hi => by
      obtain ⟨h0, h2, h3, h4, h6, h7, h8⟩ := h
      refine ⟨?_, ?_, ?_, ?_, ?_, ?_, ?_⟩ <;> (rw [get_set_ne (by omega)]; assumption)) hl g5 (fun ρ h => h.2.2.2.2.2.2) g9 ⟨g0, g2, g3, g4, g6, g7, g8⟩ ?_
  clear hl g0 g2 g3 g4 g5 g6 g7 g8 g9
  rintro ρ hl g9 g5 ⟨g0, g2, g3, g4, g6, g7, g8⟩
  -- partners, times
  have hPA : ∀ (first : Int) (count : Nat) ρ, 0 ≤ first → first ≤ 1000000000000 → count ≤ 100 → callF cx pa [.d (intsT L), .d (.int x), .d (.int first), .d (.int count)] ρ = .ok (.f (intsL (partsL L x first count)), ρ) := fun first count ρ f0 f1 hc => callF_ok (fr := true) (ρ2 := ρ) hpa Hpa.1 rfl (Hpa.2 L x first count lok hx f0 f1 hc)
  have hTI : ∀ (k : Int) ρ, 0 ≤ k → k ≤ 1000000000000 → callF cx ti [.d (intsT L), .d (.int x), .d (.int y), .d (.int k)] ρ = .ok (.d (.int (oftenI L.length (meetL L 0 x y) k)), ρ) := fun k ρ k0 k1 => callF_ok (fr := false) (ρ2 := ρ) hti Hti.1 rfl (Hti.2 L x y k lok hx hy k0 k1)
  obtain ⟨q0, q1⟩ := meetL_rg (L := L) (t := 0) (x := x) (y := y) (by omega)
  have hp0 := fun ρ => hPA 0 many ρ (by decide) (by decide) (by omega)
  have ht0 := fun ρ => hTI many ρ (by omega) (by omega)
  have hk : (PyData.tuple [.int (kmin x y), .int (kmax x y)]) = pairD (keyP (x, y)) := rfl
  have m1 : fMin2 (.int x) (.int y) = some (.d (.int (kmin x y))) := rfl
  have m2 : fMax2 (.int x) (.int y) = some (.d (.int (kmax x y))) := rfl
  have hcount : ((((aget (metF L 0 many) (keyP (x, y))).getD []).length : Nat) : Int) = oftenI L.length (meetL L 0 x y) many := by
    obtain ⟨k1, k2, k3⟩ := keyP_mem (t := 0) hx hy
    have hg := metF_get lok.nd lo (t := 0) (a := (keyP (x, y)).1) (b := (keyP (x, y)).2) many
    have hc := often_count (L := L) (by omega) (t := 0) (a := (keyP (x, y)).1) (b := (keyP (x, y)).2) many
    rw [k3] at hc
    rw [← hc]
    by_cases e : meetR L 0 many (keyP (x, y)).1 (keyP (x, y)).2 = []
    · rw [if_neg (fun z => z.2.2.2 e)] at hg
      rw [hg, e]
      rfl
    · rw [if_pos ⟨k1, k2, keyP_le _, e⟩] at hg
      rw [hg]
      rfl
  have hg2 : method .get2 (.dict (dP (metF L 0 many))) [pairD (keyP (x, y)), .list []] = some (.d (intsL ((aget (metF L 0 many) (keyP (x, y))).getD []))) := get2P _ _ []
  have hdk := dP_dkeys (metF L 0 many)
  generalize hG : (aget (metF L 0 many) (keyP (x, y))).getD [] = G at *
  generalize hF : dP (metF L 0 many) = F at *
  simp [law05C_b2_8, law05C_b2_9, hl, g3, g5, g6, g7, g8, g9, hp0, neL, ht0, -min2I, -max2I, m1, m2, hk, hdk, hg2, lenL, neI, hcount]
  refine Fx_gen (P := fun ρ => ρ.length = 15 ∧ get ρ 0 = .fz (scrD ns) ∧ get ρ 2 = .ow (bagD a5 s5) ∧ get ρ 3 = .fz (intsT L) ∧ get ρ 4 = .fz (.int L.length) ∧ get ρ 5 = .fz (.int x) ∧ get ρ 6 = .fz (.int y) ∧ get ρ 7 = .fz (.int many) ∧ get ρ 9 = .ow (intsL (partsL L x 0 many))) ⟨hl, g0, g2, g3, g4, g5, g6, g7, g9⟩ ?_
  clear hl g0 g2 g3 g4 g5 g6 g7 g8 g9 hg2 hcount hdk hF hG hso
  rintro ρ ⟨hl, g0, g2, g3, g4, g5, g6, g7, g9⟩
  obtain ⟨w1, a6, s6, h1, hw1, ok6⟩ := callF_takeN htk Htk (ρ := ρ) (i := 2) 1000000000000 g2 ok5 (by decide) (by decide)
  have hp1 := fun ρ => hPA w1 L.length ρ (by omega) (by omega) (by omega)
  obtain ⟨ws, e1, _, _⟩ := sortD_ints L
  have hpl : (partsL L x w1 L.length).length = L.length := by unfold partsL; rw [List.length_map, List.length_range]
  have hs1 : fSorted (intsL (partsL L x w1 L.length)) = some (.f (intsL ws)) := fSortedL (by rw [sort_ints_perm (parts_perm lok.nd hx (by omega)), e1]) (le_bigS (by omega))
  have hs2 : fSorted (intsT L) = some (.f (intsL ws)) := by
    unfold fSorted intsT
    simp only [itemsOf, seqOf, Option.bind_some, sorts_ints L (le_bigS (by omega)), e1]
    rfl
  obtain ⟨far, a7, s7, h2, hfar, ok7⟩ := callF_takeN htk Htk (ρ := ρ.set 2 (.ow (bagD a6 s6))) (i := 2) 10000000000 (by simp [hl]) ok6 (by decide) (by decide)
  obtain ⟨start, a8, s8, h3, hstart, ok8⟩ := callF_takeN htk Htk (ρ := (ρ.set 2 (.ow (bagD a6 s6))).set 2 (.ow (bagD a7 s7))) (i := 2) 10000000000 (by simp [hl]) ok7 (by decide) (by decide)
  simp at h1 h2 h3
  simp [law05C_b2_10, law05C_b2_11, hl, g2, g3, g4, g5, pow1012, pow1010, h1, hp1, hs1, hs2, neL, h2, h3]
  refine Fx_gen (P := fun ρ => ρ.length = 15 ∧ get ρ 0 = .fz (scrD ns) ∧ get ρ 3 = .fz (intsT L) ∧ get ρ 4 = .fz (.int L.length) ∧ get ρ 5 = .fz (.int x) ∧ get ρ 6 = .fz (.int y) ∧ get ρ 7 = .fz (.int many) ∧ get ρ 9 = .ow (intsL (partsL L x 0 many)) ∧ get ρ 12 = .fz (.int far) ∧ get ρ 13 = .fz (.int start)) ⟨by simp [hl], by simp [g0], by simp [g3], by simp [g4], by simp [g5], by simp [g6], by simp [g7], by simp [g9], by simp [hl], by simp [hl]⟩ ?_
  clear h1 h2 h3 hl g0 g2 g3 g4 g5 g6 g7 g9
  rintro ρ ⟨hl, g0, g3, g4, g5, g6, g7, g9, g12, g13⟩
  have hlim := limN
  have z1 : Sm ((far : Nat) : Int) := sm_nat (by omega)
  have z2 : Sm ((start : Nat) : Int) := sm_nat (by omega)
  have z3 : Sm ((L.length : Nat) : Int) := sm_nat (by omega)
  have b1 : far * L.length ≤ 10000000000 * 24 := Nat.mul_le_mul (by omega) hi
  have b2 : start * L.length ≤ 10000000000 * 24 := Nat.mul_le_mul (by omega) hi
  have c1 : (far : Int) * (L.length : Int) = ((far * L.length : Nat) : Int) := by simp
  have c2 : (start : Int) * (L.length : Int) = ((start * L.length : Nat) : Int) := by simp
  have ht1 := fun ρ => hTI (many + far * L.length) ρ (by rw [c1]; omega) (by rw [c1]; omega)
  rw [often_addN q0 q1 (by omega)] at ht1
  have hp2 := fun ρ => hPA (start * L.length) many ρ (by rw [c2]; omega) (by rw [c2]; omega) (by omega)
  rw [parts_mod] at hp2
  have ht2 := fun ρ => hTI 0 ρ (by decide) (by decide)
  have o0 : oftenI L.length (meetL L 0 x y) 0 = 0 := by unfold oftenI; rw [if_pos q0]
  rw [o0] at ht2
  have hM : ∀ ρ, callF cx me [.d (intsT L), .d (.int x), .d (.int y)] ρ = .ok (.d (.int (meetL L 0 x y)), ρ) := fun ρ => callF_ok (fr := false) (ρ2 := ρ) hme Hme.1 rfl (Hme.2 L x y lok hx hy)
  have ht3 := fun ρ => hTI (meetL L 0 x y) ρ q0 (by omega)
  have ht4 := fun ρ => hTI (meetL L 0 x y + 1) ρ (by omega) (by omega)
  have o1 : oftenI L.length (meetL L 0 x y) (meetL L 0 x y) = 0 := by unfold oftenI; rw [if_pos (Int.le_refl _)]
  have o2 : oftenI L.length (meetL L 0 x y) (meetL L 0 x y + 1) = 1 := by
    unfold oftenI
    rw [if_neg (by omega), show meetL L 0 x y + 1 - 1 - meetL L 0 x y = 0 by omega, Int.zero_ediv]
    rfl
  rw [o1] at ht3
  rw [o2] at ht4
  generalize meetL L 0 x y = mm at *
  have hl0 : ev cx (law05C_l0 ti) (ρ.set 14 (.fz (.int mm))) = .ok (.f (intsL [0, 1]), ρ.set 14 (.fz (.int mm))) := by
    have e : Rv.f (intsL [0, 1]) = Rv.f (.list ([mm, mm + 1].map fun k => .int (oftenI L.length mm k))) := by
      show Rv.f (.list [.int 0, .int 1]) = Rv.f (.list [.int (oftenI L.length mm mm), .int (oftenI L.length mm (mm + 1))])
      rw [o1, o2]
    rw [e]
    refine ev_lcI (rs := [.d (.tuple [.int mm, .int (mm + 1)])]) (ds := [.tuple [.int mm, .int (mm + 1)]]) _ (by simp [hl, addI]) rfl rfl (by simp) fun k hk ρ1 e1 => ⟨.d (.int (oftenI L.length mm k)), ?_, rfl⟩
    subst e1
    simp at hk
    rcases hk with rfl | rfl
    · simp [hl, g3, g5, g6, ht3, o1]
    · simp [hl, g3, g5, g6, ht4, o2]
  have e01 := neL [0, 1] [0, 1]
  rw [show intsL [0, 1] = .list [.int 0, .int 1] from rfl] at e01 hl0
  simp at hl0 e01
  simp [law05C_b2_12, law05C_b2_13, law05C_b2_14, law05C_b2_15, hl, g3, g4, g5, g6, g7, g9, g12, g13, mulS z1 z3, mulS z2 z3, addI, ht0, ht1, hp2, ht2, neI, neL, hM, hl0, e01]
  exact ⟨by simp [hl], by simp [g0]⟩
theorem run05 {cx : Ctx} {bg ln mt of tk me pa ti : Nat} (K : K05 cx bg ln mt of tk me pa ti) (ns : List Int) : run cx 15 false (law05C bg ln mt of tk me pa ti) [scrD ns] = .ok (.bool true) false := by
  refine run_Fx ?_
  obtain ⟨n, hn, hw⟩ := outer ns 6 (by decide)
  obtain ⟨fp, hpa, Hpa⟩ := K.pa
  obtain ⟨fe, hti, Hti⟩ := K.ti
  have hPA : ∀ (x first : Int) (count : Nat) ρ, x ∈ ([0, 1, 2, 3] : List Int) → 0 ≤ first → first ≤ 1000000000000 → count ≤ 100 → callF cx pa [.d (intsT [0, 1, 2, 3]), .d (.int x), .d (.int first), .d (.int count)] ρ = .ok (.f (intsL (partsL [0, 1, 2, 3] x first count)), ρ) := fun x first count ρ hx f0 f1 hc => callF_ok (fr := true) (ρ2 := ρ) hpa Hpa.1 rfl (Hpa.2 _ x first count l4 hx f0 f1 hc)
  have hTI : ∀ (x y k : Int) ρ, x ∈ ([0, 1, 2, 3] : List Int) → y ∈ ([0, 1, 2, 3] : List Int) → 0 ≤ k → k ≤ 1000000000000 → callF cx ti [.d (intsT [0, 1, 2, 3]), .d (.int x), .d (.int y), .d (.int k)] ρ = .ok (.d (.int (oftenI 4 (meetL [0, 1, 2, 3] 0 x y) k)), ρ) := fun x y k ρ hx hy k0 k1 => callF_ok (fr := false) (ρ2 := ρ) hti Hti.1 rfl (Hti.2 _ x y k l4 hx hy k0 k1)
  have c1 := fun ρ => hPA 0 0 4 ρ (by decide) (by decide) (by decide) (by decide)
  have c2 := fun ρ => hPA 1 1000000000000 2 ρ (by decide) (by decide) (by decide) (by decide)
  have c3 := fun ρ => hTI 0 1 10 ρ (by decide) (by decide) (by decide) (by decide)
  have c4 := fun ρ => hTI 0 0 3 ρ (by decide) (by decide) (by decide) (by decide)
  have c5 := fun ρ => hTI 0 1 1000000000000 ρ (by decide) (by decide) (by decide) (by decide)
  rw [show partsL [0, 1, 2, 3] 0 0 4 = [1, 3, 2, 0] by decide +kernel] at c1
  rw [show partsL [0, 1, 2, 3] 1 1000000000000 2 = [0, 1] by decide +kernel] at c2
  rw [show oftenI 4 (meetL [0, 1, 2, 3] 0 0 1) 10 = 3 by decide +kernel] at c3
  rw [show oftenI 4 (meetL [0, 1, 2, 3] 0 0 0) 3 = 0 by decide +kernel] at c4
  rw [show oftenI 4 (meetL [0, 1, 2, 3] 0 0 1) 1000000000000 = 250000000000 by decide +kernel] at c5
  have e1 := neL [1, 3, 2, 0] [1, 3, 2, 0]
  have e2 := neL [0, 1] [0, 1]
  simp [intsT, intsL] at c1 c2 c3 c4 c5 e1 e2
  show Fx (xec cx (law05C bg ln mt of tk me pa ti) [.fz (scrD ns), .no, .no, .no, .no, .no, .no, .no, .no, .no, .no, .no, .no, .no, .no]) _ _
  simp at hw
  simp [law05C, scrLen, addI, hw]
  simp only [Fx_seqX]
  refine Fx_for (fun _ => Q05 ns) ⟨rfl, rfl⟩ (fun i x ρ hx h => ?_) fun ρ h => ?_
  · obtain ⟨rfl, hi⟩ := rangeD_at hx
    refine ⟨_, rfl, turn05 K (k := i) (by omega) (by simp [h.1]) (by simp [h.2]) (by simp [h.1])⟩
  · obtain ⟨hl, g0⟩ := h
    simp [law05C_1, law05C_2, law05C_3, law05C_4, hl, c1, c2, c3, c4, c5, e1, e2, pow1012, neI, eqI]
end Iv
set_option maxRecDepth 100000
set_option maxHeartbeats 4000000
/-! R5: two lines' tables: when they are the same. -/
namespace Iv
open PySem PySem.Spec PyProof.Rows L2
def SameL (L M : List Int) : Prop := L = M ∨ L.length % 2 = 0 ∧ L = M.reverse
instance (L M : List Int) : Decidable (SameL L M) := by unfold SameL; infer_instance
theorem turnN_inj {n p q : Nat} (hp : p < n) (hq : q < n) (h : turnN n p = turnN n q) : p = q := by
  unfold turnN at h
  split at h <;> split at h <;> omega
theorem turnN_rev {n p : Nat} (hp : p < n) (he : n % 2 = 0) : turnN n (n - 1 - p) = turnN n p + n / 2 ∨ turnN n (n - 1 - p) = turnN n p - n / 2 := by
  unfold turnN
  split <;> split <;> omega
theorem turnN_half {n p q : Nat} (hp : p < n) (hq : q < n) (he : n % 2 = 0) (h : turnN n p = turnN n q + n / 2 ∨ turnN n p = turnN n q - n / 2) : p = n - 1 - q := by
  refine turnN_inj hp (by omega) ?_
  have r1 := turnN_rg hp
  have r2 := turnN_rg hq
  have r3 := turnN_rg (n := n) (p := n - 1 - q) (by omega)
  have := turnN_rev hq he
  omega
theorem mod_eq {n x y : Int} (h : x % n = y % n) : ∃ k, x - y = n * k := by
  have := Int.emod_eq_emod_iff_emod_sub_eq_zero.mp h
  exact ⟨(x - y) / n, by have := Int.mul_ediv_add_emod (x - y) n; omega⟩
theorem mod_of {n x y k : Int} (h : x - y = n * k) : x % n = y % n := by
  rw [Int.emod_eq_emod_iff_emod_sub_eq_zero, h, Int.mul_emod_right]
theorem small_mul {n k d : Int} (h : d = n * k) (h1 : -(2 * n) < d) (h2 : d < 2 * n) (hn : 0 < n) : d = 0 ∨ d = n ∨ d = -n := by
  have k1 : -2 < k := by
    refine Int.lt_of_not_ge fun z => ?_
    have := Int.mul_le_mul_of_nonneg_left z (show 0 ≤ n by omega)
    omega
  have k2 : k < 2 := by
    refine Int.lt_of_not_ge fun z => ?_
    have := Int.mul_le_mul_of_nonneg_left z (show 0 ≤ n by omega)
    omega
  have : k = -1 ∨ k = 0 ∨ k = 1 := by omega
  rcases this with rfl | rfl | rfl <;> omega
theorem list_idx {L M : List Int} (hl : L.length = M.length) (nd : L.Nodup) (h : ∀ x ∈ L, x ∈ M ∧ L.idxOf x = M.idxOf x) : L = M := by
  refine List.ext_getElem hl fun i h1 h2 => ?_
  obtain ⟨m, e⟩ := h L[i] (List.getElem_mem h1)
  have e1 : L.idxOf L[i] = i := by
    have := idx_getD nd h1
    rwa [show L.getD i 0 = L[i] from by simp [h1]] at this
  rw [e1] at e
  have := getD_idx m
  rw [← e] at this
  simpa [h2] using this.symm
theorem rev_idx {M : List Int} (nd : M.Nodup) {x : Int} (h : x ∈ M) : M.reverse.idxOf x = M.length - 1 - M.idxOf x := by
  have hlt := idx_lt h
  have e : M.reverse.getD (M.length - 1 - M.idxOf x) 0 = x := by
    have := getD_idx h
    rw [List.getD_eq_getElem?_getD, List.getElem?_reverse (by omega), show M.length - 1 - (M.length - 1 - M.idxOf x) = M.idxOf x by omega, ← List.getD_eq_getElem?_getD]
    exact this
  have := idx_getD (L := M.reverse) (((List.reverse_perm M).nodup_iff.mpr nd)) (p := M.length - 1 - M.idxOf x) (by rw [List.length_reverse]; omega)
  rwa [e] at this
theorem meet_same {L M : List Int} (h : SameL L M) (nd : L.Nodup) {x y : Int} (hx : x ∈ L) (hy : y ∈ L) : meetL L 0 x y = meetL M 0 x y := by
  rcases h with rfl | ⟨he, e⟩
  · rfl
  · subst e
    rw [List.length_reverse] at he
    have hx := List.mem_reverse.mp hx
    have hy := List.mem_reverse.mp hy
    have nd := (List.reverse_perm M).nodup_iff.mp nd
    unfold meetL
    rw [rev_idx nd hx, rev_idx nd hy, List.length_reverse, meet_turn, meet_turn]
    have h1 := turnN_rev (idx_lt hx) he
    have h2 := turnN_rev (idx_lt hy) he
    have h3 : (-1 - turnN M.length (M.length - 1 - M.idxOf x) - turnN M.length (M.length - 1 - M.idxOf y)) - (-1 - turnN M.length (M.idxOf x) - turnN M.length (M.idxOf y)) = 0 ∨ (-1 - turnN M.length (M.length - 1 - M.idxOf x) - turnN M.length (M.length - 1 - M.idxOf y)) - (-1 - turnN M.length (M.idxOf x) - turnN M.length (M.idxOf y)) = M.length ∨ (-1 - turnN M.length (M.length - 1 - M.idxOf x) - turnN M.length (M.length - 1 - M.idxOf y)) - (-1 - turnN M.length (M.idxOf x) - turnN M.length (M.idxOf y)) = -M.length := by omega
    rcases h3 with h3 | h3 | h3
    · exact mod_of (k := 0) (by rw [h3, Int.mul_zero])
    · exact mod_of (k := 1) (by rw [h3, Int.mul_one])
    · exact mod_of (k := -1) (by rw [h3]; omega)
theorem same_of_meet {L M : List Int} (hl : L.length = M.length) (nd : L.Nodup) (nd2 : M.Nodup) (hm : ∀ x, x ∈ L → x ∈ M) (h : ∀ x y, x ∈ L → y ∈ L → meetL L 0 x y = meetL M 0 x y) : SameL L M := by
  rcases Nat.eq_zero_or_pos L.length with h0 | h0
  · left
    rw [List.length_eq_zero_iff] at h0
    subst h0
    exact (List.length_eq_zero_iff.mp hl.symm).symm
  have hn : (0 : Int) < L.length := by omega
  have hx0 : L.getD 0 0 ∈ L := getD_mem h0
  generalize L.getD 0 0 = x0 at hx0
  have rg : ∀ x ∈ L, (0 ≤ turnN L.length (L.idxOf x) ∧ turnN L.length (L.idxOf x) < L.length) ∧ (0 ≤ turnN L.length (M.idxOf x) ∧ turnN L.length (M.idxOf x) < L.length) := fun x hx => ⟨turnN_rg (idx_lt hx), turnN_rg (by rw [hl]; exact idx_lt (hm x hx))⟩
  have key : ∀ x y, x ∈ L → y ∈ L → ∃ k : Int, (turnN L.length (M.idxOf x) - turnN L.length (L.idxOf x)) + (turnN L.length (M.idxOf y) - turnN L.length (L.idxOf y)) = L.length * k := fun x y hx hy => by
    have := h x y hx hy
    unfold meetL at this
    rw [← hl, meet_turn, meet_turn] at this
    obtain ⟨k, e⟩ := mod_eq this
    exact ⟨k, by omega⟩
  have sm : ∀ x y, x ∈ L → y ∈ L → (turnN L.length (M.idxOf x) - turnN L.length (L.idxOf x)) + (turnN L.length (M.idxOf y) - turnN L.length (L.idxOf y)) = 0 ∨ (turnN L.length (M.idxOf x) - turnN L.length (L.idxOf x)) + (turnN L.length (M.idxOf y) - turnN L.length (L.idxOf y)) = L.length ∨ (turnN L.length (M.idxOf x) - turnN L.length (L.idxOf x)) + (turnN L.length (M.idxOf y) - turnN L.length (L.idxOf y)) = -L.length := fun x y hx hy => by
    obtain ⟨k, e⟩ := key x y hx hy
    have r1 := rg x hx
    have r2 := rg y hy
    exact small_mul e (by omega) (by omega) hn
  by_cases e0 : turnN L.length (M.idxOf x0) = turnN L.length (L.idxOf x0)
  · left
    refine list_idx hl nd fun x hx => ⟨hm x hx, turnN_inj (idx_lt hx) (by rw [hl]; exact idx_lt (hm x hx)) ?_⟩
    have := sm x x0 hx hx0
    have r1 := rg x hx
    omega
  · right
    have s0 := sm x0 x0 hx0 hx0
    have he : L.length % 2 = 0 := by omega
    refine ⟨he, list_idx (by rw [List.length_reverse]; exact hl) nd fun x hx => ⟨List.mem_reverse.mpr (hm x hx), ?_⟩⟩
    rw [rev_idx nd2 (hm x hx), ← hl]
    refine turnN_half (idx_lt hx) (by rw [hl]; exact idx_lt (hm x hx)) he ?_
    have := sm x x0 hx hx0
    have s1 := sm x x hx hx
    have r1 := rg x hx
    have r0 := rg x0 hx0
    omega
theorem SameL.symm {L M : List Int} (h : SameL L M) : SameL M L := by
  rcases h with rfl | ⟨he, e⟩
  · exact .inl rfl
  · subst e
    exact .inr ⟨by rw [List.length_reverse] at he; exact he, (List.reverse_reverse _).symm⟩
theorem SameL.mem {L M : List Int} (h : SameL L M) {x : Int} : x ∈ L ↔ x ∈ M := by
  rcases h with rfl | ⟨he, e⟩
  · exact Iff.rfl
  · subst e
    exact List.mem_reverse
theorem SameL.len {L M : List Int} (h : SameL L M) : L.length = M.length := by
  rcases h with rfl | ⟨he, e⟩
  · rfl
  · subst e
    exact List.length_reverse
/-- all rounds of a whole period tell the line, up to a turn round -/
theorem tabs_same {L M : List Int} (ok : LineOk L) (ok2 : LineOk M) {many : Nat} (hm : L.length ≤ many) : (∀ p, aget (metF L 0 many) p = aget (metF M 0 many) p) ↔ SameL L M := by
  have lo := ok.lo
  have lo2 := ok2.lo
  constructor
  · intro h
    -- a meeting that falls into the rounds
    have fwd : ∀ {A B : List Int}, LineOk A → LineOk B → (∀ p, aget (metF A 0 many) p = aget (metF B 0 many) p) → ∀ {a b : Int}, a ∈ A → b ∈ A → meetL A 0 a b < many → a ∈ B ∧ b ∈ B ∧ ((meetL A 0 a b).toNat : Int) % B.length = meetL B 0 a b := by
      intro A B okA okB h a b ha hb hlt
      have loA := okA.lo
      have main : ∀ {a b : Int}, a ∈ A → b ∈ A → a ≤ b → meetL A 0 a b < many → a ∈ B ∧ b ∈ B ∧ ((meetL A 0 a b).toNat : Int) % B.length = meetL B 0 a b := by
        intro a b ha hb hab hlt
        obtain ⟨m0, m1⟩ := meetL_rg (L := A) (t := 0) (x := a) (y := b) (by omega)
        have hmem : meetL A 0 a b ∈ meetR A 0 many a b := mem_meetR.mpr ⟨(meetL A 0 a b).toNat, by omega, by rw [Int.toNat_of_nonneg m0, Int.emod_eq_of_lt m0 m1], by omega⟩
        have e := h (a, b)
        rw [metF_get okA.nd okA.lo, metF_get okB.nd okB.lo, if_pos ⟨ha, hb, hab, fun z => by rw [z] at hmem; cases hmem⟩] at e
        split at e
        · rename_i hc
          rw [Option.some.inj e] at hmem
          obtain ⟨r, h1, h2, h3⟩ := mem_meetR.mp hmem
          refine ⟨hc.1, hc.2.1, ?_⟩
          rw [Int.toNat_of_nonneg m0, h3, Nat.zero_add]
          exact h2
        · cases e
      by_cases hab : a ≤ b
      · exact main ha hb hab hlt
      · rw [meetL_comm] at hlt
        obtain ⟨h1, h2, h3⟩ := main hb ha (by omega) hlt
        rw [meetL_comm A, meetL_comm B]
        exact ⟨h2, h1, h3⟩
    have sub : ∀ x, x ∈ L → x ∈ M := fun x hx => (fwd ok ok2 h hx hx (by have := (meetL_rg (L := L) (t := 0) (x := x) (y := x) (by omega)).2; omega)).1
    have sub2 : ∀ x, x ∈ M → x ∈ L := fun x hx => by
      obtain ⟨y, hy, e⟩ := meetL_sur ok2.nd (t := 0) hx 0
      exact (fwd ok2 ok (fun p => (h p).symm) hx hy (by rw [e]; simp; omega)).1
    have hl : L.length = M.length := ((List.perm_ext_iff_of_nodup ok.nd ok2.nd).mpr fun x => ⟨sub x, sub2 x⟩).length_eq
    refine same_of_meet hl ok.nd ok2.nd sub fun x y hx hy => ?_
    obtain ⟨m0, m1⟩ := meetL_rg (L := L) (t := 0) (x := x) (y := y) (by omega)
    have := (fwd ok ok2 h hx hy (by omega)).2.2
    rw [Int.toNat_of_nonneg m0, ← hl, Int.emod_eq_of_lt m0 m1] at this
    exact this
  · intro h p
    obtain ⟨a, b⟩ := p
    rw [metF_get ok.nd ok.lo, metF_get ok2.nd ok2.lo]
    by_cases hc : a ∈ L ∧ b ∈ L
    · have e : meetR L 0 many a b = meetR M 0 many a b := by
        unfold meetR
        rw [meet_same h ok.nd hc.1 hc.2, h.len]
      have ea := h.mem (x := a)
      have eb := h.mem (x := b)
      simp only [e, ea, eb]
    · rw [if_neg (fun z => hc ⟨z.1, z.2.1⟩), if_neg (fun z => hc ⟨h.mem.mpr z.1, h.mem.mpr z.2.1⟩)]
/-! ### tables as dicts -/
theorem okDict_dP (kvs : Tab) : okDict (dP kvs) = true := by
  unfold okDict dP
  rw [List.all_map, List.all_eq_true]
  intro p _
  show (key1 (pairD p.1) && SeqAt.shaped (intsL p.2)) = true
  rw [show SeqAt.shaped (intsL p.2) = true from shaped_ints _, Bool.and_true]
  rfl
theorem eqAtD_dP (T : Tab) (p : (Int × Int) × List Int) : eqAtD (dP T) (pairD p.1, intsL p.2) = decide (aget T p.1 = some p.2) := by
  unfold eqAtD
  dsimp only
  rw [dval_dP]
  cases e : aget T p.1 with
  | none => simp
  | some l =>
    show PyData.eqvAll (p.2.map .int) (l.map .int) = _
    rw [eqvAll_ints]
    by_cases h : p.2 = l
    · subst h; simp
    · rw [decide_eq_false h, decide_eq_false (fun z => h (Option.some.inj z).symm)]
theorem aget_of_mem {T : Tab} (nd : (T.map (·.1)).Nodup) {p : (Int × Int) × List Int} (h : p ∈ T) : aget T p.1 = some p.2 := by
  induction T with
  | nil => cases h
  | cons q r ih =>
    rw [aget_cons]
    rw [List.map_cons, List.nodup_cons] at nd
    rcases List.mem_cons.mp h with rfl | h
    · simp
    · have : ¬ q.1 = p.1 := fun z => nd.1 (z ▸ List.mem_map_of_mem h)
      simp [this]
      exact ih nd.2 h
theorem sub_back {α : Type} [DecidableEq α] : ∀ {A B : List α}, A.Nodup → (∀ x, x ∈ A → x ∈ B) → B.length ≤ A.length → ∀ x, x ∈ B → x ∈ A
  | [], B, _, _, h, x, hx => by
    rw [List.length_eq_zero_iff.mp (Nat.le_zero.mp h)] at hx
    cases hx
  | a :: r, B, nd, h, hl, x, hx => by
    rw [List.nodup_cons] at nd
    have ha := h a (List.mem_cons_self)
    by_cases e : x = a
    · subst e
      exact List.mem_cons_self
    · refine List.mem_cons_of_mem _ (sub_back (A := r) (B := B.erase a) nd.2 (fun y hy => (List.mem_erase_of_ne (fun z : y = a => nd.1 (by rw [← z]; exact hy))).mpr (h y (List.mem_cons_of_mem _ hy))) ?_ x ((List.mem_erase_of_ne e).mpr hx))
      rw [List.length_erase_of_mem ha]
      rw [List.length_cons] at hl
      omega
theorem eqDict_dP {T U : Tab} (nd : (T.map (·.1)).Nodup) (nd2 : (U.map (·.1)).Nodup) : eqDict (dP T) (dP U) = true ↔ ∀ p, aget T p = aget U p := by
  unfold eqDict
  rw [dP_len, dP_len, Bool.and_eq_true, beq_iff_eq, List.all_eq_true]
  constructor
  · rintro ⟨hl, h⟩
    have hk : ∀ p ∈ T, aget U p.1 = some p.2 := fun p hp => by
      have := h (pairD p.1, intsL p.2) (List.mem_map_of_mem hp)
      rw [eqAtD_dP] at this
      exact of_decide_eq_true this
    have sub : ∀ k, k ∈ T.map (·.1) → k ∈ U.map (·.1) := fun k hk' => by
      obtain ⟨p, hp, rfl⟩ := List.mem_map.mp hk'
      exact mem_aget (hk p hp)
    have sub2 : ∀ k, k ∈ U.map (·.1) → k ∈ T.map (·.1) := sub_back nd sub (by rw [List.length_map, List.length_map]; omega)
    intro k
    by_cases hkk : k ∈ T.map (·.1)
    · obtain ⟨p, hp, rfl⟩ := List.mem_map.mp hkk
      rw [hk p hp, aget_of_mem nd hp]
    · have e1 : aget T k = none := by
        cases e : aget T k with
        | none => rfl
        | some l => exact absurd (mem_aget e) hkk
      have e2 : aget U k = none := by
        cases e : aget U k with
        | none => rfl
        | some l => exact absurd (sub2 k (mem_aget e)) hkk
      rw [e1, e2]
  · intro h
    refine ⟨?_, fun q hq => ?_⟩
    · have : List.Perm (T.map (·.1)) (U.map (·.1)) := (List.perm_ext_iff_of_nodup nd nd2).mpr fun k => by
        constructor
        · intro hk
          obtain ⟨l, e⟩ := aget_mem hk
          rw [h k] at e
          exact mem_aget e
        · intro hk
          obtain ⟨l, e⟩ := aget_mem hk
          rw [← h k] at e
          exact mem_aget e
      have := this.length_eq
      rwa [List.length_map, List.length_map] at this
    · obtain ⟨p, hp, rfl⟩ := List.mem_map.mp hq
      show eqAtD (dP U) (pairD p.1, intsL p.2) = true
      rw [eqAtD_dP, ← h, aget_of_mem nd hp]
      exact decide_eq_true rfl
theorem eq_dP {L M : List Int} (ok : LineOk L) (ok2 : LineOk M) {many : Nat} (hm : L.length ≤ many) : cmpop .Eq (.dict (dP (metF M 0 many))) (.dict (dP (metF L 0 many))) = some (decide (SameL L M)) := by
  show (if okDict _ = true ∧ okDict _ = true then some (eqDict _ _) else none) = _
  rw [if_pos ⟨okDict_dP _, okDict_dP _⟩]
  congr 1
  rw [Bool.eq_iff_iff, decide_eq_true_iff, eqDict_dP (metF_nd _ _ _) (metF_nd _ _ _), ← tabs_same ok ok2 hm]
  exact ⟨fun h p => (h p).symm, fun h p => (h p).symm⟩
end Iv
set_option maxRecDepth 100000
set_option maxHeartbeats 4000000
/-! R6: the law k07. -/
namespace Iv
open PySem PySem.Spec PyProof.Rows L2
variable {cx : Ctx}
def law07C_b0_2 (i_same_dances : Nat) : S := (.seq (.ife (.nott (.tr (.bi .isbool (.cons (.call i_same_dances (.cons (.v 3) (.cons (.v 10) .nil))) .nil)))) (.seq (.ret (.k (.bool false))) .nil) .nil) .nil)
def law07C_b0_1 (i_same_dances : Nat) : S := (.seq (.ife (.ort (.tr (.cmp .NotEq (.call i_same_dances (.cons (.v 3) (.cons (.v 10) .nil))) (.v 11))) (.tr (.cmp .NotEq (.call i_same_dances (.cons (.v 10) (.cons (.v 3) .nil))) (.v 11)))) (.seq (.ret (.k (.bool false))) .nil) .nil) (law07C_b0_2 i_same_dances))
def law07C_b0 (i_law_met i_same_dances : Nat) : S := (.seq (.asg 11 (.cmp .Eq (.ix (.call i_law_met (.cons (.v 10) (.cons (.k (.int 0)) (.cons (.op .Mult (.k (.int 2)) (.v 4)) .nil)))) (.k (.int 0))) (.v 5))) (law07C_b0_1 i_same_dances))
def law07C_b1_12 (i_same_dances : Nat) : S := (.seq (.ife (.tr (.cmp .NotEq (.call i_same_dances (.cons (.v 3) (.cons (.rev (.v 3)) .nil))) (.cmp .Eq (.op .Mod (.v 4) (.k (.int 2))) (.k (.int 0))))) (.seq (.ret (.k (.bool false))) .nil) .nil) .nil)
def law07C_b1_11 (i_law_met i_same_dances : Nat) : S := (.seq (.for (.n 10) .seq (.cons (.v 9) .nil) (law07C_b0 i_law_met i_same_dances)) (law07C_b1_12 i_same_dances))
def law07C_b1_10 (i_law_met i_same_dances : Nat) : S := (.seq (.ife (.tr (.cmp .Gt (.v 4) (.k (.int 2)))) (.seq (.app 9 (.sl (.v 3) (.pt (.k (.int 1))) (.k .none))) .nil) .nil) (law07C_b1_11 i_law_met i_same_dances))
def law07C_b1_9 (i_law_line i_law_met i_line_after i_same_dances : Nat) : S := (.seq (.asg 9 (.op .Add (.v 9) (.lst (.cons (.call i_line_after (.cons (.v 3) (.cons (.v 4) .nil))) (.cons (.call i_law_line (.cons (.v 2) (.cons (.k (.int 5)) .nil))) (.cons (.op .Add (.sl (.v 3) (.pt (.k (.int 1))) (.k .none)) (.sl (.v 3) (.k .none) (.pt (.k (.int 1))))) .nil)))))) (law07C_b1_10 i_law_met i_same_dances))
def law07C_b1_8 (i_law_line i_law_met i_line_after i_same_dances : Nat) : S := (.seq (.asg 9 (.lst (.cons (.v 3) (.cons (.rev (.v 3)) (.cons (.bi .tuple (.cons (.v 8) .nil)) (.cons (.bi .tuple (.cons (.rev (.v 8)) .nil)) (.cons (.call i_line_after (.cons (.v 3) (.cons (.k (.int 1)) .nil))) (.cons (.call i_line_after (.cons (.v 3) (.cons (.k (.int 2)) .nil))) .nil)))))))) (law07C_b1_9 i_law_line i_law_met i_line_after i_same_dances))
def law07C_b1_7 (i_law_line i_law_met i_line_after i_same_dances : Nat) : S := (.seq (.set2 8 (.v 6) (.v 7) (.cons (.ix (.v 8) (.v 7)) (.cons (.ix (.v 8) (.v 6)) .nil))) (law07C_b1_8 i_law_line i_law_met i_line_after i_same_dances))
def law07C_b1_6 (i_law_line i_law_met i_line_after i_same_dances : Nat) : S := (.seq (.asg 8 (.bi .list (.cons (.v 3) .nil))) (law07C_b1_7 i_law_line i_law_met i_line_after i_same_dances))
def law07C_b1_5 (i_law_line i_law_met i_law_take i_line_after i_same_dances : Nat) : S := (.seq (.asg 7 (.op .Mod (.op .Add (.op .Add (.v 6) (.k (.int 1))) (.call i_law_take (.cons (.v 2) (.cons (.op .Sub (.v 4) (.k (.int 1))) .nil)))) (.v 4))) (law07C_b1_6 i_law_line i_law_met i_line_after i_same_dances))
def law07C_b1_4 (i_law_line i_law_met i_law_take i_line_after i_same_dances : Nat) : S := (.seq (.asg 6 (.call i_law_take (.cons (.v 2) (.cons (.v 4) .nil)))) (law07C_b1_5 i_law_line i_law_met i_law_take i_line_after i_same_dances))
def law07C_b1_3 (i_law_line i_law_met i_law_take i_line_after i_same_dances : Nat) : S := (.seq (.asg 5 (.ix (.call i_law_met (.cons (.v 3) (.cons (.k (.int 0)) (.cons (.op .Mult (.k (.int 2)) (.v 4)) .nil)))) (.k (.int 0)))) (law07C_b1_4 i_law_line i_law_met i_law_take i_line_after i_same_dances))
def law07C_b1_2 (i_law_line i_law_met i_law_take i_line_after i_same_dances : Nat) : S := (.seq (.asg 4 (.bi .len (.cons (.v 3) .nil))) (law07C_b1_3 i_law_line i_law_met i_law_take i_line_after i_same_dances))
def law07C_b1_1 (i_law_line i_law_met i_law_take i_line_after i_same_dances : Nat) : S := (.seq (.asg 3 (.call i_law_line (.cons (.v 2) (.cons (.ix (.lst (.cons (.k (.int 4)) (.cons (.k (.int 12)) .nil))) (.call i_law_take (.cons (.v 2) (.cons (.k (.int 2)) .nil)))) .nil)))) (law07C_b1_2 i_law_line i_law_met i_law_take i_line_after i_same_dances))
def law07C_b1 (i_law_bag i_law_line i_law_met i_law_take i_line_after i_same_dances : Nat) : S := (.seq (.asg 2 (.call i_law_bag (.cons (.v 0) (.cons (.v 1) .nil)))) (law07C_b1_1 i_law_line i_law_met i_law_take i_line_after i_same_dances))
def law07C_1 (i_same_dances : Nat) : S := (.seq (.ret (.andv (.cmp .Is (.call i_same_dances (.cons (.tup (.cons (.k (.int 0)) (.cons (.k (.int 1)) (.cons (.k (.int 2)) (.cons (.k (.int 3)) .nil))))) (.cons (.tup (.cons (.k (.int 3)) (.cons (.k (.int 2)) (.cons (.k (.int 1)) (.cons (.k (.int 0)) .nil))))) .nil))) (.k (.bool true))) (.cmp .Is (.call i_same_dances (.cons (.tup (.cons (.k (.int 0)) (.cons (.k (.int 1)) (.cons (.k (.int 2)) .nil)))) (.cons (.tup (.cons (.k (.int 2)) (.cons (.k (.int 1)) (.cons (.k (.int 0)) .nil)))) .nil))) (.k (.bool false))))) .nil)
def law07C (i_law_bag i_law_line i_law_met i_law_take i_line_after i_same_dances : Nat) : S := (.seq (.for (.n 1) .r1 (.cons (.op .Add (.bi .min2 (.cons (.bi .len (.cons (.v 0) .nil)) (.cons (.k (.int 8)) .nil))) (.k (.int 2))) .nil) (law07C_b1 i_law_bag i_law_line i_law_met i_law_take i_line_after i_same_dances)) (law07C_1 i_same_dances))
def sameC (i_require_line : Nat) : S := (.seq (.exp (.call i_require_line (.cons (.v 0) .nil))) (.seq (.exp (.call i_require_line (.cons (.v 1) .nil))) (.seq (.ret (.orv (.cmp .Eq (.v 0) (.v 1)) (.andv (.cmp .Eq (.op .Mod (.bi .len (.cons (.v 0) .nil)) (.k (.int 2))) (.k (.int 0))) (.cmp .Eq (.v 0) (.rev (.v 1)))))) .nil)))

theorem revT (L : List Int) : reverse (intsT L) = some (.d (intsT L.reverse)) := by
  show some (Rv.d (.tuple (L.map PyData.int).reverse)) = _
  rw [← List.map_reverse]
  rfl
theorem revL (L : List Int) : reverse (intsL L) = some (.f (intsL L.reverse)) := by
  show some (Rv.f (.list (L.map PyData.int).reverse)) = _
  rw [← List.map_reverse]
  rfl
theorem isBool (b : Bool) : fIs "bool" (.bool b) = some (.d (.bool true)) := rfl
theorem neB (a b : Bool) : cmpop .NotEq (.bool a) (.bool b) = some (!decide (a = b)) := by
  cases a <;> cases b <;> decide +kernel
theorem isB (a b : Bool) : cmpop .Is (.bool a) (.bool b) = some (a == b) := rfl
def SameF (f : FI) : Prop := f.io = false ∧ ∀ L M : List Int, LineOk L → LineOk M → f.sem [intsT L, intsT M] = .ok (.bool (decide (SameL L M))) false
theorem sem_same {fr : FI} {r : Nat} (hr : cx.fs[r]? = some fr) (Hr : ReqF fr) {f : FI} (hio : f.io = false) (hs : ∀ ds, f.sem ds = run cx 2 false (sameC r) ds) : SameF f := by
  refine ⟨hio, fun L M ok ok2 => ?_⟩
  rw [hs]
  refine run_Fx ?_
  have h1 : ∀ ρ, callF cx r [.d (intsT L)] ρ = .ok (.d .none, ρ) := fun ρ => callF_ok (fr := false) (ρ2 := ρ) hr Hr.1 rfl (Hr.2 L ok)
  have h2 : ∀ ρ, callF cx r [.d (intsT M)] ρ = .ok (.d .none, ρ) := fun ρ => callF_ok (fr := false) (ρ2 := ρ) hr Hr.1 rfl (Hr.2 M ok2)
  show Fx (xec cx (sameC r) [.fz (intsT L), .fz (intsT M)]) _ _
  have e : decide (SameL L M) = (decide (L = M) || (decide ((L.length : Int) % 2 = 0) && decide (L = M.reverse))) := by
    rw [Bool.eq_iff_iff]
    simp only [decide_eq_true_eq, Bool.or_eq_true, Bool.and_eq_true]
    unfold SameL
    have : ((L.length : Int) % 2 = 0) ↔ L.length % 2 = 0 := by omega
    rw [this]
  rw [e]
  by_cases c1 : L = M
  · simp [sameC, h1, h2, eqT, c1]
  · by_cases c2 : (L.length : Int) % 2 = 0
    · simp [sameC, h1, h2, eqT, c1, lenT, modP, eqI, c2, revT]
    · simp [sameC, h1, h2, eqT, c1, lenT, modP, eqI, c2, revT]
theorem LineOk.perm {L M : List Int} (ok : LineOk L) (h : List.Perm M L) : LineOk M := ⟨by rw [h.length_eq]; exact ok.lo, by rw [h.length_eq]; exact ok.hi, fun x hx => ok.rg x (h.mem_iff.mp hx), h.nodup_iff.mpr ok.nd⟩
theorem LineOk.rev {L : List Int} (ok : LineOk L) : LineOk L.reverse := ok.perm (List.reverse_perm L)
theorem LineOk.rot {L : List Int} (ok : LineOk L) : LineOk (L.drop 1 ++ L.take 1) := ok.perm ((List.perm_append_comm).trans (by rw [List.take_append_drop]))
theorem LineOk.less {L : List Int} (ok : LineOk L) (h : 2 < L.length) : LineOk (L.drop 1) := ⟨by rw [List.length_drop]; omega, by have := ok.hi; rw [List.length_drop]; omega, fun x hx => ok.rg x (List.mem_of_mem_drop hx), ok.nd.sublist (List.drop_sublist 1 L)⟩
theorem LineOk.at {L : List Int} (ok : LineOk L) (t : Nat) : LineOk (lineAt L t) := by
  have e : lineAt L t = lineF L 0 t := (lineF_zero t).symm
  rw [e]
  exact lineF_ok ok 0 t
def swapL (L : List Int) (i j : Nat) : List Int := (L.set i (L.getD j 0)).set j (L.getD i 0)
theorem LineOk.swap {L : List Int} (ok : LineOk L) {i j : Nat} (hi : i < L.length) (hj : j < L.length) : LineOk (swapL L i j) := by
  refine ok.perm ?_
  have := List.set_set_perm hi hj
  unfold swapL
  simpa [hi, hj] using this
theorem same_rev {L : List Int} (ok : LineOk L) : SameL L L.reverse ↔ L.length % 2 = 0 := by
  unfold SameL
  rw [List.reverse_reverse]
  constructor
  · rintro (h | h)
    · exfalso
      have lo := ok.lo
      have h0 : L.idxOf (L.getD 0 0) = 0 := idx_getD ok.nd (by omega)
      have hm : L.getD 0 0 ∈ L := getD_mem (by omega)
      have := rev_idx ok.nd hm
      rw [← h, h0] at this
      omega
    · exact h.1
  · intro h
    exact .inr ⟨h, rfl⟩
theorem sl_from1 (L : List Int) : slice (intsT L) (.int 1) .none = some (.d (intsT (L.drop 1))) := by
  show some (Rv.d (.tuple (cutD (L.map .int) (some ((1 : Nat) : Int)) none))) = _
  rw [cut_drop, ← List.map_drop]
  rfl
theorem sl_to1 (L : List Int) : slice (intsT L) .none (.int 1) = some (.d (intsT (L.take 1))) := by
  show some (Rv.d (.tuple (cutD (L.map .int) none (some ((1 : Nat) : Int))))) = _
  rw [cut_take, ← List.map_take]
  rfl
theorem add_sl (A B : List Int) (h : A.length + B.length ≤ big) : binop .Add (intsT A) (intsT B) = some (.d (intsT (A ++ B))) := by
  have := addTT (a := A.map .int) (b := B.map .int) (by rw [List.length_map, List.length_map]; exact h)
  rw [← List.map_append] at this
  exact this
theorem subGo_v {a p i : Nat} {v : D} {ρ : Env} {k : Env → F} {xs : List D} (ha : get ρ a = .ow (.list xs)) (hp : get ρ p = .fz (.int i)) (hi : i < xs.length) : subGo (ev cx (.v p)) a v ρ k = k (ρ.set a (.ow (.list (xs.set i v)))) := by
  simp [subGo, ha, hp, setL hi]
theorem set2_v {a p q i j : Nat} {es : C} {u v : D} {ρ : Env} {xs : List D} (he : ev cx es ρ = .ok (.l [.d u, .d v], ρ)) (hl : a < ρ.length) (hpa : p ≠ a) (hqa : q ≠ a) (ha : get ρ a = .ow (.list xs)) (hp : get ρ p = .fz (.int i)) (hq : get ρ q = .fz (.int j)) (hi : i < xs.length) (hj : j < xs.length) : xec cx (.set2 a (.v p) (.v q) es) ρ = .nx (ρ.set a (.ow (.list ((xs.set i u).set j v)))) := by
  show lift (ev cx es ρ) _ = _
  rw [he]
  show subGo (ev cx (.v p)) a u ρ (fun ρ3 => subGo (ev cx (.v q)) a v ρ3 .nx) = _
  rw [subGo_v ha hp hi, subGo_v (xs := xs.set i u) (i := j) (by rw [get_set_self hl]) (by rw [get_set_ne (by omega)]; exact hq) (by rw [List.length_set]; exact hj), List.set_set]
structure K07 (cx : Ctx) (bg ln mt tk la sd : Nat) : Prop where
  bg : ∃ f, cx.fs[bg]? = some f ∧ BagF f
  ln : ∃ f, cx.fs[ln]? = some f ∧ LineOkF f
  mt : ∃ f, cx.fs[mt]? = some f ∧ MetF f
  tk : ∃ f, cx.fs[tk]? = some f ∧ TakeOk f
  la : ∃ f, cx.fs[la]? = some f ∧ AfterF f
  sd : ∃ f, cx.fs[sd]? = some f ∧ SameF f
def Q07 (ns : List Int) (ρ : Env) : Prop := ρ.length = 12 ∧ get ρ 0 = .fz (scrD ns)
theorem loop07 {mt sd : Nat} {fmt fs : FI} (hmt : cx.fs[mt]? = some fmt) (Hmt : MetF fmt) (hsd : cx.fs[sd]? = some fs) (Hsd : SameF fs) {ns L : List Int} (lok : LineOk L) {Ms : List (List Int)} (hMs : ∀ M ∈ Ms, LineOk M) (hlen : Ms.length ≤ 100) {ρ : Env} {T : D → Bool → Env → Prop} (hl : ρ.length = 12) (g0 : get ρ 0 = .fz (scrD ns)) (g3 : get ρ 3 = .fz (intsT L)) (g4 : get ρ 4 = .fz (.int L.length)) (g5 : get ρ 5 = .fz (.dict (dP (metF L 0 (2 * L.length))))) (g9 : get ρ 9 = .ow (.list (Ms.map intsT))) :
    Fx (xec cx (law07C_b1_11 mt sd) ρ) (Q07 ns) T := by
  have lo := lok.lo
  have hi := lok.hi
  have hL : (0 : Int) < L.length := by omega
  have hlim := limN
  have z2 : Sm (2 : Int) := sm_nat (n := 2) (by omega)
  have zL : Sm ((L.length : Nat) : Int) := sm_nat (by omega)
  have hMT : ∀ (M : List Int) ρ, LineOk M → callF cx mt [.d (intsT M), .d (.int 0), .d (.int (2 * (L.length : Int)))] ρ = .ok (.d (.tuple [.dict (dP (metF M 0 (2 * L.length))), intsT (lineF M 0 (2 * L.length))]), ρ) := fun M ρ okM => by
    have := callF_ok (fr := false) (ρ := ρ) (ρ2 := ρ) (rs := [.d (intsT M), .d (.int 0), .d (.int ((2 * L.length : Nat) : Int))]) hmt Hmt.1 rfl (Hmt.2 M 0 (2 * L.length) okM (by omega))
    rw [show ((2 * L.length : Nat) : Int) = 2 * (L.length : Int) by omega] at this
    exact this
  have hSD : ∀ (A B : List Int) ρ, LineOk A → LineOk B → callF cx sd [.d (intsT A), .d (intsT B)] ρ = .ok (.d (.bool (decide (SameL A B))), ρ) := fun A B ρ okA okB => callF_ok (fr := false) (ρ2 := ρ) hsd Hsd.1 rfl (Hsd.2 A B okA okB)
  simp [law07C_b1_11, g9, walkL, hl]
  simp only [Fx_seqX]
  refine Fx_for (fun _ ρ => ρ.length = 12 ∧ get ρ 0 = .fz (scrD ns) ∧ get ρ 3 = .fz (intsT L) ∧ get ρ 4 = .fz (.int L.length) ∧ get ρ 5 = .fz (.dict (dP (metF L 0 (2 * L.length))))) ⟨by simp [hl], by simp [g0], by simp [g3], by simp [g4], by simp [g5]⟩ (fun i x ρ hx h => ?_) fun ρ h => ?_
  · rw [List.getElem?_map] at hx
    obtain ⟨M, hM, rfl⟩ := Option.map_eq_some_iff.mp hx
    have okM := hMs M (List.mem_of_getElem? hM)
    obtain ⟨hl, g0, g3, g4, g5⟩ := h
    have e1 := fun ρ => hMT M ρ okM
    have e2 := eq_dP lok okM (many := 2 * L.length) (by omega)
    have e3 := fun ρ => hSD L M ρ lok okM
    have e4 := fun ρ => hSD M L ρ okM lok
    rw [show decide (SameL M L) = decide (SameL L M) from decide_eq_decide.mpr ⟨SameL.symm, SameL.symm⟩] at e4
    generalize decide (SameL L M) = b at *
    generalize dP (metF L 0 (2 * L.length)) = F at *
    generalize dP (metF M 0 (2 * L.length)) = G at *
    refine ⟨_, rfl, ?_⟩
    simp [law07C_b0, law07C_b0_1, law07C_b0_2, hl, g3, g4, g5, mulS z2 zL, e1, ix0, e2, e3, e4, neB, isBool]
    simp [g0]
  · obtain ⟨hl, g0, g3, g4, g5⟩ := h
    have e3 := fun ρ => hSD L L.reverse ρ lok lok.rev
    rw [show decide (SameL L L.reverse) = decide ((L.length : Int) % 2 = 0) from decide_eq_decide.mpr ((same_rev lok).trans (by omega))] at e3
    simp [law07C_b1_12, hl, g3, g4, revT, e3, modP, eqI, neB]
    exact ⟨hl, g0⟩
theorem ixL (L : List Int) {i : Nat} (h : i < L.length) : index (intsL L) (.int i) = some (.d (.int (L.getD i 0))) := index_nat (xs := L.map .int) (k := i) rfl (by simp [h])
theorem turn07 {bg ln mt tk la sd : Nat} (K : K07 cx bg ln mt tk la sd) {ns : List Int} {k : Nat} (hk : k ≤ 100) {ρ : Env} {T : D → Bool → Env → Prop} (hl : ρ.length = 12) (g0 : get ρ 0 = .fz (scrD ns)) (g1 : get ρ 1 = .fz (.int k)) :
    Fx (xec cx (law07C_b1 bg ln mt tk la sd) ρ) (Q07 ns) T := by
  obtain ⟨fb, hb, Hb⟩ := K.bg
  obtain ⟨fl, hln, Hln⟩ := K.ln
  obtain ⟨fmt, hmt, Hmt⟩ := K.mt
  obtain ⟨ft, htk, Htk⟩ := K.tk
  obtain ⟨fa, hla, Hla⟩ := K.la
  obtain ⟨fs, hsd, Hsd⟩ := K.sd
  obtain ⟨a, s, hbag, ok⟩ := callF_bag hb Hb ns hk
  obtain ⟨r, a1, s1, hr, r1, ok1⟩ := callF_takeN htk Htk (ρ := ρ.set 2 (.ow (bagD a s))) (i := 2) 2 (by simp [hl]) ok (by decide) (by decide)
  obtain ⟨m, hm, hix⟩ := ix2L 4 12 r1
  obtain ⟨L, a2, s2, hL, ok2, lok, _⟩ := callF_line hln Hln (ρ := (ρ.set 2 (.ow (bagD a s))).set 2 (.ow (bagD a1 s1))) (i := 2) (m := m) (by simp [hl]) ok1 (by omega) (by omega)
  simp at hr hL
  simp [law07C_b1, law07C_b1_1, law07C_b1_2, g0, g1, hbag, hl, hr, hix, hL, lenT]
  refine Fx_gen (P := fun ρ => ρ.length = 12 ∧ get ρ 0 = .fz (scrD ns) ∧ get ρ 2 = .ow (bagD a2 s2) ∧ get ρ 3 = .fz (intsT L) ∧ get ρ 4 = .fz (.int L.length)) ⟨by simp [hl], by simp [g0], by simp [hl], by simp [hl], by simp [hl]⟩ ?_
  clear hr hL hl g0 g1 hix hbag
  rintro ρ ⟨hl, g0, g2, g3, g4⟩
  have lo := lok.lo
  have hi := lok.hi
  have hL : (0 : Int) < L.length := by omega
  have hlim := limN
  have z2 : Sm (2 : Int) := sm_nat (n := 2) (by omega)
  have zL : Sm ((L.length : Nat) : Int) := sm_nat (by omega)
  have hMT : ∀ (M : List Int) ρ, LineOk M → callF cx mt [.d (intsT M), .d (.int 0), .d (.int (2 * (L.length : Int)))] ρ = .ok (.d (.tuple [.dict (dP (metF M 0 (2 * L.length))), intsT (lineF M 0 (2 * L.length))]), ρ) := fun M ρ okM => by
    have := callF_ok (fr := false) (ρ := ρ) (ρ2 := ρ) (rs := [.d (intsT M), .d (.int 0), .d (.int ((2 * L.length : Nat) : Int))]) hmt Hmt.1 rfl (Hmt.2 M 0 (2 * L.length) okM (by omega))
    rw [show ((2 * L.length : Nat) : Int) = 2 * (L.length : Int) by omega] at this
    exact this
  have hSD : ∀ (A B : List Int) ρ, LineOk A → LineOk B → callF cx sd [.d (intsT A), .d (intsT B)] ρ = .ok (.d (.bool (decide (SameL A B))), ρ) := fun A B ρ okA okB => callF_ok (fr := false) (ρ2 := ρ) hsd Hsd.1 rfl (Hsd.2 A B okA okB)
  have hLA : ∀ (t : Nat) ρ, t ≤ 1000 → callF cx la [.d (intsT L), .d (.int t)] ρ = .ok (.d (intsT (lineAt L t)), ρ) := fun t ρ ht => callF_ok (fr := false) (ρ2 := ρ) hla Hla.1 rfl (Hla.2 L t lok (by show (t : Int) ≤ 1000000000000; omega))
  -- found, one, other
  have hM0 := fun ρ => hMT L ρ lok
  obtain ⟨one, a3, s3, h1, hone, ok3⟩ := callF_takeN htk Htk (ρ := ρ.set 5 (.fz (.dict (dP (metF L 0 (2 * L.length)))))) (i := 2) L.length (by simp [g2]) ok2 (by omega) (by omega)
  obtain ⟨ot, a4, s4, h2, hot, ok4⟩ := callF_takeN htk Htk (ρ := ((ρ.set 5 (.fz (.dict (dP (metF L 0 (2 * L.length)))))).set 2 (.ow (bagD a3 s3))).set 6 (.fz (.int one))) (i := 2) (L.length - 1) (by simp [hl]) ok3 (by omega) (by omega)
  rw [show ((L.length - 1 : Nat) : Int) = (L.length : Int) - 1 by omega] at h2
  generalize hF : dP (metF L 0 (2 * L.length)) = F at *
  obtain ⟨other, hother, holt, hone2⟩ : ∃ other : Nat, ((one : Int) + 1 + ot) % L.length = (other : Int) ∧ other < L.length ∧ other ≠ one := by
    refine ⟨(((one : Int) + 1 + ot) % L.length).toNat, ?_, ?_, ?_⟩
    · have := Int.emod_nonneg ((one : Int) + 1 + ot) (show (L.length : Int) ≠ 0 by omega)
      omega
    · have := Int.emod_nonneg ((one : Int) + 1 + ot) (show (L.length : Int) ≠ 0 by omega)
      have := Int.emod_lt_of_pos ((one : Int) + 1 + ot) hL
      omega
    · intro e
      have h0 := Int.emod_nonneg ((one : Int) + 1 + ot) (show (L.length : Int) ≠ 0 by omega)
      have e2 : ((one : Int) + 1 + ot) % L.length = (one : Int) % L.length := by rw [Int.emod_eq_of_lt (b := (L.length : Int)) (a := (one : Int)) (by omega) (by omega)]; omega
      rw [Int.emod_eq_emod_iff_emod_sub_eq_zero, show ((one : Int) + 1 + ot) - one = (1 : Int) + ot by omega, Int.emod_eq_of_lt (by omega) (by omega)] at e2
      omega
  simp [law07C_b1_3, law07C_b1_4, law07C_b1_5, hl, g2, g3, g4, mulS z2 zL, hM0, ix0, h1, h2, subI, addI, modP hL, hother]
  refine Fx_gen (P := fun ρ => ρ.length = 12 ∧ get ρ 0 = .fz (scrD ns) ∧ get ρ 2 = .ow (bagD a4 s4) ∧ get ρ 3 = .fz (intsT L) ∧ get ρ 4 = .fz (.int L.length) ∧ get ρ 5 = .fz (.dict F) ∧ get ρ 6 = .fz (.int one) ∧ get ρ 7 = .fz (.int other)) ⟨by simp [hl], by simp [g0], by simp [hl], by simp [g3], by simp [g4], by simp [hl], by simp [hl], by simp [hl]⟩ ?_
  clear h1 h2 hM0 hl g0 g2 g3 g4
  rintro ρ ⟨hl, g0, g2, g3, g4, g5, g6, g7⟩
  have hfl : fList (intsT L) = some (.f (intsL L)) := rfl
  simp [law07C_b1_6, hl, g3, hfl]
  refine Fx_gen (P := fun ρ => ρ.length = 12 ∧ get ρ 0 = .fz (scrD ns) ∧ get ρ 2 = .ow (bagD a4 s4) ∧ get ρ 3 = .fz (intsT L) ∧ get ρ 4 = .fz (.int L.length) ∧ get ρ 5 = .fz (.dict F) ∧ get ρ 6 = .fz (.int one) ∧ get ρ 7 = .fz (.int other) ∧ get ρ 8 = .ow (intsL L)) ⟨by simp [hl], by simp [g0], by simp [g2], by simp [g3], by simp [g4], by simp [g5], by simp [g6], by simp [g7], by simp [hl]⟩ ?_
  clear hl g0 g2 g3 g4 g5 g6 g7
  rintro ρ ⟨hl, g0, g2, g3, g4, g5, g6, g7, g8⟩
  have hes : ev cx (.cons (.ix (.v 8) (.v 7)) (.cons (.ix (.v 8) (.v 6)) .nil)) ρ = .ok (.l [.d (.int (L.getD other 0)), .d (.int (L.getD one 0))], ρ) := by
    simp [g8, g7, g6, ixL L holt, ixL L hone]
  have hset := set2_v (cx := cx) (a := 8) (p := 6) (q := 7) (xs := L.map .int) hes (by omega) (by decide) (by decide) g8 g6 g7 (by rw [List.length_map]; exact hone) (by rw [List.length_map]; exact holt)
  have hsw : (((L.map PyData.int).set one (.int (L.getD other 0))).set other (.int (L.getD one 0))) = (swapL L one other).map .int := by
    unfold swapL
    rw [List.map_set, List.map_set]
  rw [hsw] at hset
  rw [show (PyData.list ((swapL L one other).map .int)) = intsL (swapL L one other) from rfl] at hset
  have cok := lok.swap hone holt
  generalize swapL L one other = C at *
  simp [law07C_b1_7, hset]
  refine Fx_gen (P := fun ρ => ρ.length = 12 ∧ get ρ 0 = .fz (scrD ns) ∧ get ρ 2 = .ow (bagD a4 s4) ∧ get ρ 3 = .fz (intsT L) ∧ get ρ 4 = .fz (.int L.length) ∧ get ρ 5 = .fz (.dict F) ∧ get ρ 8 = .ow (intsL C)) ⟨by simp [hl], by simp [g0], by simp [g2], by simp [g3], by simp [g4], by simp [g5], by simp [hl]⟩ ?_
  clear hset hes hsw hl g0 g2 g3 g4 g5 g6 g7 g8
  rintro ρ ⟨hl, g0, g2, g3, g4, g5, g8⟩
  have f1 : ∀ A : List Int, fTuple (intsL A) = some (.d (intsT A)) := fun A => rfl
  have l1 := fun ρ => hLA 1 ρ (by decide)
  have l2 := fun ρ => hLA 2 ρ (by decide)
  have l3 := fun ρ => hLA L.length ρ (by omega)
  simp at l1 l2
  obtain ⟨O, a5, s5, hO, ok5, ook, _⟩ := callF_line hln Hln (ρ := ρ.set 9 (.ow (.list [intsT L, intsT L.reverse, intsT C, intsT C.reverse, intsT (lineAt L 1), intsT (lineAt L 2)]))) (i := 2) (m := 5) (by simp [g2]) ok4 (by decide) (by decide)
  have hbig := le_bigS (n := 100) (by omega)
  have hadd := add_sl L.tail (L.take 1) (by rw [List.length_tail, List.length_take]; exact le_bigS (by omega))
  have hlst : ∀ A B : List (List Int), A.length + B.length ≤ 100 → binop .Add (.list (A.map intsT)) (.list (B.map intsT)) = some (.f (.list ((A ++ B).map intsT))) := fun A B h => by
    rw [addLL (by rw [List.length_map, List.length_map]; omega), ← List.map_append]
  have hl2 := hlst [L, L.reverse, C, C.reverse, lineAt L 1, lineAt L 2] [lineAt L L.length, O, L.tail ++ L.take 1] (by simp)
  generalize hMs : [L, L.reverse, C, C.reverse, lineAt L 1, lineAt L 2] ++ [lineAt L L.length, O, L.tail ++ L.take 1] = Ms at hl2
  have hMl : Ms.length = 9 := by rw [← hMs]; rfl
  have hMok : ∀ M ∈ Ms, LineOk M := by
    rw [← hMs]
    have hr := lok.rot
    rw [List.drop_one] at hr
    intro M hM
    simp at hM
    rcases hM with rfl | rfl | rfl | rfl | rfl | rfl | rfl | rfl | rfl
    · exact lok
    · exact lok.rev
    · exact cok
    · exact cok.rev
    · exact lok.at 1
    · exact lok.at 2
    · exact lok.at L.length
    · exact ook
    · exact hr
  simp only [List.map_cons, List.map_nil] at hl2
  simp [law07C_b1_8, law07C_b1_9, hl, g2, g3, g4, g8, revT, revL, f1, l1, l2, l3, hO, sl_from1, sl_to1, hadd, hl2]
  refine Fx_gen (P := fun ρ => ρ.length = 12 ∧ get ρ 0 = .fz (scrD ns) ∧ get ρ 3 = .fz (intsT L) ∧ get ρ 4 = .fz (.int L.length) ∧ get ρ 5 = .fz (.dict F) ∧ get ρ 9 = .ow (.list (Ms.map intsT))) ⟨by simp [hl], by simp [g0], by simp [g3], by simp [g4], by simp [g5], by simp [hl]⟩ ?_
  clear hl g0 g2 g3 g4 g5 g8 hO
  rintro ρ ⟨hl, g0, g3, g4, g5, g9⟩
  subst hF
  by_cases h2 : 2 < L.length
  · have hle := lok.less h2
    rw [List.drop_one] at hle
    have hlt : Ms.length < big := by omega
    have h3 : (2 : Int) < L.length := by omega
    simp [law07C_b1_10, hl, g3, g4, gtI, h3, g9, sl_from1, hlt]
    refine loop07 (ρ := ρ.set 9 _) hmt Hmt hsd Hsd lok (Ms := Ms ++ [L.tail]) (fun M hM => ?_) (by rw [List.length_append]; simp; omega) (by simp [hl]) (by simp [g0]) (by simp [g3]) (by simp [g4]) (by simp [g5]) (by simp [hl])
    rcases List.mem_append.mp hM with h | h
    · exact hMok M h
    · rw [List.mem_singleton] at h
      subst h
      exact hle
  · have h3 : ¬ (2 : Int) < L.length := by omega
    simp [law07C_b1_10, hl, g3, g4, gtI, h3]
    exact loop07 hmt Hmt hsd Hsd lok hMok (by omega) hl g0 g3 g4 g5 g9
theorem l3210 : LineOk [3, 2, 1, 0] := ⟨by decide, by decide, by decide, by decide⟩
theorem l012 : LineOk [0, 1, 2] := ⟨by decide, by decide, by decide, by decide⟩
theorem l210 : LineOk [2, 1, 0] := ⟨by decide, by decide, by decide, by decide⟩
theorem run07 {bg ln mt tk la sd : Nat} (K : K07 cx bg ln mt tk la sd) (ns : List Int) : run cx 12 false (law07C bg ln mt tk la sd) [scrD ns] = .ok (.bool true) false := by
  refine run_Fx ?_
  obtain ⟨n, hn, hw⟩ := outer ns 8 (by decide)
  obtain ⟨fs, hsd, Hsd⟩ := K.sd
  have c1 := fun ρ => callF_ok (fr := false) (ρ2 := ρ) (rs := [.d (intsT [0, 1, 2, 3]), .d (intsT [3, 2, 1, 0])]) (ρ := ρ) hsd Hsd.1 rfl (Hsd.2 _ _ l4 l3210)
  have c2 := fun ρ => callF_ok (fr := false) (ρ2 := ρ) (rs := [.d (intsT [0, 1, 2]), .d (intsT [2, 1, 0])]) (ρ := ρ) hsd Hsd.1 rfl (Hsd.2 _ _ l012 l210)
  rw [show decide (SameL [0, 1, 2, 3] [3, 2, 1, 0]) = true by decide +kernel] at c1
  rw [show decide (SameL [0, 1, 2] [2, 1, 0]) = false by decide +kernel] at c2
  simp [intsT] at c1 c2
  show Fx (xec cx (law07C bg ln mt tk la sd) [.fz (scrD ns), .no, .no, .no, .no, .no, .no, .no, .no, .no, .no, .no]) _ _
  simp at hw
  simp [law07C, scrLen, addI, hw]
  simp only [Fx_seqX]
  refine Fx_for (fun _ => Q07 ns) ⟨rfl, rfl⟩ (fun i x ρ hx h => ?_) fun ρ h => ?_
  · obtain ⟨rfl, hi⟩ := rangeD_at hx
    refine ⟨_, rfl, turn07 K (k := i) (by omega) (by simp [h.1]) (by simp [h.2]) (by simp [h.1])⟩
  · obtain ⟨hl, g0⟩ := h
    simp [law07C_1, hl, c1, c2, isB]
end Iv
set_option maxRecDepth 100000
set_option maxHeartbeats 4000000
/-! M_k07: k07's defs keep their words. -/
namespace Iv
open PySem PySem.Spec PyProof.Rows L2
abbrev F__law_bag : FI := fiOf ⟨fisOf fuel0 r__law_bag, fuel0⟩ d__law_bag
abbrev F__law_take : FI := fiOf ⟨fisOf fuel0 r__law_take, fuel0⟩ d__law_take
abbrev F__law_line : FI := fiOf ⟨fisOf fuel0 r__law_line, fuel0⟩ d__law_line
abbrev F__law_danced : FI := fiOf ⟨fisOf fuel0 r__law_danced, fuel0⟩ d__law_danced
abbrev F__law_met : FI := fiOf ⟨fisOf fuel0 r__law_met, fuel0⟩ d__law_met
abbrev F_is_integer : FI := fiOf ⟨fisOf fuel0 r_is_integer, fuel0⟩ d_is_integer
abbrev F_is_line : FI := fiOf ⟨fisOf fuel0 r_is_line, fuel0⟩ d_is_line
abbrev F_require_line : FI := fiOf ⟨fisOf fuel0 r_require_line, fuel0⟩ d_require_line
abbrev F_require_number : FI := fiOf ⟨fisOf fuel0 r_require_number, fuel0⟩ d_require_number
abbrev F_place_of : FI := fiOf ⟨fisOf fuel0 r_place_of, fuel0⟩ d_place_of
abbrev F_spot_of : FI := fiOf ⟨fisOf fuel0 r_spot_of, fuel0⟩ d_spot_of
abbrev F_moved : FI := fiOf ⟨fisOf fuel0 r_moved, fuel0⟩ d_moved
abbrev F_line_after : FI := fiOf ⟨fisOf fuel0 r_line_after, fuel0⟩ d_line_after
abbrev F_same_dances : FI := fiOf ⟨fisOf fuel0 r_same_dances, fuel0⟩ d_same_dances
theorem p__law_bag : BagF F__law_bag := sem_bag (cx := ⟨fisOf fuel0 r__law_bag, fuel0⟩)
theorem p__law_take : TakeOk F__law_take := ⟨rfl, fun a s c h h1 h2 => sem_take a s c h h1 h2⟩
theorem p__law_line : LineOkF F__law_line := ⟨rfl, fun a s m h h1 h2 => sem_line (cx := ⟨fisOf fuel0 r__law_line, fuel0⟩) (t := 1) (ft := F__law_take) rfl p__law_take a s m h h1 h2⟩
theorem sem_of_danced (cx : Ctx) (ds : List D) : (fiOf cx d__law_danced).sem ds = run cx 10 false c__law_danced ds := rfl
theorem code_danced : dancedC = c__law_danced := rfl
theorem p__law_danced : DancedF F__law_danced := by
  refine ⟨rfl, ?_⟩
  intro L t h1 h2 h3
  rw [sem_of_danced, ← code_danced]
  exact sem_danced L t h1 h2 h3
theorem p__law_met : MetF F__law_met := sem_met (cx := ⟨fisOf fuel0 r__law_met, fuel0⟩) (d := 3) (fd := F__law_danced) rfl p__law_danced rfl fun _ => rfl
theorem p_is_integer : IsIntG F_is_integer := isInt_g (cx := ⟨fisOf fuel0 r_is_integer, fuel0⟩)
theorem p_is_line : IsLineF F_is_line := ⟨rfl, fun ns h => sem_isLine (cx := ⟨fisOf fuel0 r_is_line, fuel0⟩) (i := 5) (fi := F_is_integer) rfl p_is_integer.i h⟩
theorem p_require_line : ReqF F_require_line := ⟨rfl, fun ns h => sem_req (cx := ⟨fisOf fuel0 r_require_line, fuel0⟩) (i := 6) (f := F_is_line) rfl p_is_line h⟩
theorem p_require_number : ReqNF F_require_number := ⟨rfl, fun i lo hi h1 h2 => sem_reqN (cx := ⟨fisOf fuel0 r_require_number, fuel0⟩) (i := 5) (f := F_is_integer) rfl p_is_integer.i h1 h2⟩
theorem p_place_of : PlaceF F_place_of := sem_place (cx := ⟨fisOf fuel0 r_place_of, fuel0⟩)
theorem p_spot_of : SpotF F_spot_of := sem_spot (cx := ⟨fisOf fuel0 r_spot_of, fuel0⟩)
theorem p_moved : MovedG F_moved := ⟨rfl, fun ns t r h1 h2 => sem_movedG (cx := ⟨fisOf fuel0 r_moved, fuel0⟩) (p := 9) (q := 10) (fp := F_place_of) (fq := F_spot_of) rfl p_place_of rfl p_spot_of ns t r h1 h2⟩
theorem p_line_after : AfterF F_line_after := ⟨rfl, fun ns t h1 h2 => sem_after (cx := ⟨fisOf fuel0 r_line_after, fuel0⟩) (i := 7) (j := 8) (m := 11) (fr := F_require_line) (fn := F_require_number) (fm := F_moved) rfl p_require_line rfl p_require_number rfl p_moved.f ns t h1 h2⟩
theorem p_same_dances : SameF F_same_dances := sem_same (cx := ⟨fisOf fuel0 r_same_dances, fuel0⟩) (r := 7) (fr := F_require_line) rfl p_require_line rfl fun _ => rfl
theorem k07b : K07 ⟨fisOf fuel0 r_law, fuel0⟩ 0 2 4 1 12 13 where
  bg := ⟨F__law_bag, rfl, p__law_bag⟩
  ln := ⟨F__law_line, rfl, p__law_line⟩
  mt := ⟨F__law_met, rfl, p__law_met⟩
  tk := ⟨F__law_take, rfl, p__law_take⟩
  la := ⟨F_line_after, rfl, p_line_after⟩
  sd := ⟨F_same_dances, rfl, p_same_dances⟩
theorem sem_of_law (ds : List D) : fi_law.sem ds = run ⟨fisOf fuel0 r_law, fuel0⟩ 12 false c_law ds := rfl
theorem code_law : law07C 0 2 4 1 12 13 = c_law := rfl
theorem law_sem : ∀ ns : List Int, ns.length ≤ 63 → fi_law.sem [scrD ns] = .ok (.bool true) false := fun ns _ => by
  rw [sem_of_law, ← code_law]
  exact run07 k07b ns
end Iv
set_option maxRecDepth 100000
open PySem PySem.W PyProof.Rows
set_option maxRecDepth 100000 in
set_option maxHeartbeats 0 in
theorem PySem.Challenge.cw_contralines_k07_whole_lines_with_the_sam_holds : PySem.Challenge.rw_contralines_k07_whole_lines_with_the_sam.Holds := by
  w_on; o_law; k_head; (case hw => w_witness2)
  k_fill
  refine Iv.walk_ofL (l := PySem.Challenge.rw_contralines_k07_whole_lines_with_the_sam) (n := 63) (k := 15) (x := "script") (fi := Iv.fi_law) rfl (by decide) rfl ⟨rfl, by decide, by decide⟩ (fun w h Y => PySem.W.kIn_of Y) ?F ⟨rfl, rfl⟩ Iv.law_sem
  case F =>
    intro w mg fa h KX G L hmg
    refine' Iv.all_mk KX G L hmg ?a0 ?l0 ?c0 ?k0 ?a1 ?l1 ?c1 ?k1 ?a2 ?l2 ?c2 ?k2 ?a3 ?l3 ?c3 ?k3 ?a4 ?l4 ?c4 ?k4 ?a5 ?l5 ?c5 ?k5 ?a6 ?l6 ?c6 ?k6 ?a7 ?l7 ?c7 ?k7 ?a8 ?l8 ?c8 ?k8 ?a9 ?l9 ?c9 ?k9 ?a10 ?l10 ?c10 ?k10 ?a11 ?l11 ?c11 ?k11 ?a12 ?l12 ?c12 ?k12 ?a13 ?l13 ?c13 ?k13 ?a14 ?l14 ?c14 ?k14 ?n0 ?n1 ?n3 ?z0 ?z1 ?z2 ?z3 ?z4 ?z5 ?z6 ?z7 ?z8 ?z9 ?z10 ?z11 ?z12 ?z13 ?z14 ?z15 ?z16 ?ge0 ?x0 ?ke0 ?b0 ?y0 ?ge1 ?x1 ?ke1 ?b1 ?y1
    (case a0 => k_is)
    (case l0 => k_is)
    (case c0 => k_is)
    (case k0 => k_is)
    (case a1 => k_is)
    (case l1 => k_is)
    (case c1 => k_is)
    (case k1 => k_is)
    (case a2 => k_is)
    (case l2 => k_is)
    (case c2 => k_is)
    (case k2 => k_is)
    (case a3 => k_is)
    (case l3 => k_is)
    (case c3 => k_is)
    (case k3 => k_is)
    (case a4 => k_is)
    (case l4 => k_is)
    (case c4 => k_is)
    (case k4 => k_is)
    (case a5 => k_is)
    (case l5 => k_is)
    (case c5 => k_is)
    (case k5 => k_is)
    (case a6 => k_is)
    (case l6 => k_is)
    (case c6 => k_is)
    (case k6 => k_is)
    (case a7 => k_is)
    (case l7 => k_is)
    (case c7 => k_is)
    (case k7 => k_is)
    (case a8 => k_is)
    (case l8 => k_is)
    (case c8 => k_is)
    (case k8 => k_is)
    (case a9 => k_is)
    (case l9 => k_is)
    (case c9 => k_is)
    (case k9 => k_is)
    (case a10 => k_is)
    (case l10 => k_is)
    (case c10 => k_is)
    (case k10 => k_is)
    (case a11 => k_is)
    (case l11 => k_is)
    (case c11 => k_is)
    (case k11 => k_is)
    (case a12 => k_is)
    (case l12 => k_is)
    (case c12 => k_is)
    (case k12 => k_is)
    (case a13 => k_is)
    (case l13 => k_is)
    (case c13 => k_is)
    (case k13 => k_is)
    (case a14 => k_is)
    (case l14 => k_is)
    (case c14 => k_is)
    (case k14 => k_is)
    (case n0 => k_is)
    (case n1 => k_is)
    (case n3 => k_is)
    (case z0 => k_is)
    (case z1 => k_is)
    (case z2 => k_is)
    (case z3 => k_is)
    (case z4 => k_is)
    (case z5 => k_is)
    (case z6 => k_is)
    (case z7 => k_is)
    (case z8 => k_is)
    (case z9 => k_is)
    (case z10 => k_is)
    (case z11 => k_is)
    (case z12 => k_is)
    (case z13 => k_is)
    (case z14 => k_is)
    (case z15 => k_is)
    (case z16 => k_is)
    (case ge0 => k_is)
    (case x0 => k_exc)
    (case ke0 => k_is)
    (case b0 => k_is)
    (case y0 => k_is)
    (case ge1 => k_is)
    (case x1 => k_exc)
    (case ke1 => k_is)
    (case b1 => k_is)
    (case y1 => k_is)

