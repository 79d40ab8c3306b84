import PyProof.Rows.All
import Wide.All
import OpenK.AllK
import Wide.FinOn
import HandS.ForMost
import HandS.Deep
import HandS.Wide
import HandS.Gcd
import HandS.IsInst
import HandS.Zip
import HandS.Rev
import HandS.RevRange
import HandS.Style
import HandS.Flow
import HandS.Conv
import HandS.Defaults
import HandS.TryOnly
import HandS.Strs
import HandS.WideBits
import KE.DataCmp
import HandS.TupAny
import KE.GoesZip
import KE.GoesEnum
import KE.GoesMore
import HandS.Head0
import HandS.Head1
import HandS.Head2
import HandS.HeadEnd
import HandS.HeadHook1
import HandS.HeadHook2
import HandS.Ends
import HandS.EndBits
import Flt.RightSqrt
import HandS.Head3
import PySem.Challenge.RW_steamlinks_k34_whole_polynomials_added_a
set_option Elab.async false
set_option linter.all false
set_option maxRecDepth 100000
set_option maxHeartbeats 0
/-! Ev0: an evaluator of plain data for a part of Python: the terms, the store, the run. -/
namespace Ev
open PySem L2

abbrev D := PyData
/-- a value: plain data; a list of one's own that may change (its place in the store); the known list (the script) -/
inductive U where
  | d (x : D)
  | r (i : Nat)
  | k (xs : List D)
abbrev Sto := List (Option (List D))
abbrev Env := List (Option U)
inductive Res (α : Type) where
  | ok (a : α) (S : Sto)
  | no
def Res.bind {α β : Type} : Res α → (α → Sto → Res β) → Res β
  | .ok a S, f => f a S
  | .no, _ => .no

/-- built-in functions -/
inductive Bf where
  | len | all | any | tuple | list (m : Bool) | abs | min | max | int | repr | sum | divmod | gcd | isqrt | bool
  deriving DecidableEq
/-- built-in types that isinstance asks for -/
inductive Ty where
  | int | bool | tuple | list | str
  deriving DecidableEq
/-- operations of one value; of two -/
inductive O1 where
  | bits | rev
  deriving DecidableEq
inductive O2 where
  | index | count
  deriving DecidableEq
/-- methods -/
inductive Mt where
  | append | extend | pop | insert | popAt
  deriving DecidableEq

mutual
inductive Ex where
  | var (i : Nat)
  | con (d : D)
  | bin (m : Bool) (op : Operator) (a b : Ex)
  | neg (a : Ex)
  | not (a : Ex)
  | and (a b : Ex)
  | or (a b : Ex)
  | cmp (op : CmpOp) (a b : Ex)
  | cmp2 (op op2 : CmpOp) (a b c : Ex)
  | ite (c a b : Ex)
  | call (f : Nat) (es : Exs)
  | callk (f : Nat) (es : Exs) (perm : List Nat) (ks : Exs)
  | blt (f : Bf) (es : Exs)
  | isi (e : Ex) (t : Ty)
  | idx (a b : Ex)
  | sl (m : Bool) (a : Ex) (lo hi : Eo)
  | tup (es : Exs)
  | lst (m : Bool) (es : Exs)
  | comp (m : Bool) (own : List Nat) (tg : Tg) (it : Itr) (ifs : Exs) (elt : Ex)
  | meth (f : Mt) (o : Ex) (es : Exs)
  | op1 (f : O1) (a : Ex)
  | op2 (f : O2) (a b : Ex)
  | comp2 (m : Bool) (own : List Nat) (tg : Tg) (it : Itr) (ifs : Exs) (own1 : List Nat) (tg1 : Tg) (it1 : Itr) (ifs1 : Exs) (elt : Ex)
inductive Exs where
  | nil
  | cons (e : Ex) (es : Exs)
inductive Eo where
  | none
  | some (e : Ex)
inductive Itr where
  | ex (e : Ex)
  | range1 (a : Ex)
  | range2 (a b : Ex)
  | enum (a : Ex)
  | zip (a b : Ex)
  | zip3 (a b c : Ex)
  | rev (a : Ex)
inductive Tg where
  | name (i : Nat)
  | sub (o i : Ex)
  | tup (ts : Tgs)
inductive Tgs where
  | nil
  | cons (t : Tg) (ts : Tgs)
end

mutual
inductive St where
  | asg (t : Tg) (e : Ex)
  | par (is : List Nat) (es : Exs)
  | aug (i : Nat) (op : Operator) (e : Ex)
  | augS (o i : Ex) (op : Operator) (e : Ex)
  | ex (e : Ex)
  | ret (f : Bool) (e : Ex)
  | ifs (c : Ex) (a b : Sts)
  | for_ (t : Tg) (it : Itr) (b : Sts)
  | whl (c : Ex) (b : Sts)
  | pass
  | brk
  | cont
  | dead
inductive Sts where
  | nil
  | cons (s : St) (ss : Sts)
end

/-! ### what the operations give -/
def mulOk (i j : Int) : Bool := !(decide (Builtin.Int.intBits i > shortFactorBits) && decide (Builtin.Int.intBits j > shortFactorBits) && Builtin.Int.intTooBig (Builtin.Int.intBits i + Builtin.Int.intBits j))
def mkL (m : Bool) (ds : List D) (S : Sto) : Res U := if m = true then .ok (.r S.length) (S ++ [some ds]) else .ok (.d (.list ds)) S
/-- the data of a value -/
def der (S : Sto) : U → Option D
  | .d x => some x
  | .r i => match S[i]? with
    | some (some xs) => some (.list xs)
    | _ => none
  | .k _ => none
/-- a value as data for good: a list of one's own is no longer one -/
def frz (u : U) (S : Sto) : Res D := match u with
  | .d x => .ok x S
  | .r i => match S[i]? with
    | some (some xs) => .ok (.list xs) (S.set i none)
    | _ => .no
  | .k _ => .no
def frzs : List U → Sto → Res (List D)
  | [], S => .ok [] S
  | u :: us, S => (frz u S).bind fun d S1 => (frzs us S1).bind fun ds S2 => .ok (d :: ds) S2
def binD : Operator → D → D → Option D
  | .Add, .int i, .int j => some (.int (i + j))
  | .Sub, .int i, .int j => some (.int (i - j))
  | .Mult, .int i, .int j => if mulOk i j = true then some (.int (i * j)) else none
  | .FloorDiv, .int i, .int j => if j ≠ 0 ∧ j.natAbs.log2 < 9000 then some (.int (i.fdiv j)) else none
  | .Mod, .int i, .int j => if j ≠ 0 then some (.int (i.fmod j)) else none
  | .Pow, .int i, .int j => if 0 ≤ j ∧ j ≤ 1000000 ∧ i.natAbs < 2 ^ 64 then some (.int (i ^ j.toNat)) else none
  | .LShift, .int i, .int j => if 0 ≤ j ∧ j ≤ 1000000 ∧ i.natAbs < 2 ^ 64 then some (.int (i * 2 ^ j.toNat)) else none
  | .Add, .str x, .str y => if x.length + y.length ≤ sizeLine then some (.str (x ++ y)) else none
  | .Add, .tuple xs, .tuple ys => if xs ≠ [] ∧ xs.length + ys.length ≤ sizeLine then some (.tuple (xs ++ ys)) else none
  | _, _, _ => none
def binL : Operator → D → D → Option (List D)
  | .Add, .list xs, .list ys => if xs.length + ys.length ≤ sizeLine then some (xs ++ ys) else none
  | .Mult, .list xs, .int k => if -(2 ^ 63) ≤ k ∧ k < 2 ^ 63 ∧ xs.length * k.toNat ≤ sizeLine then some (List.replicate k.toNat xs).flatten else none
  | _, _, _ => none
def binU (m : Bool) (op : Operator) (x y : U) (S : Sto) : Res U := match der S x, der S y with
  | some a, some b => match binL op a b with
    | some ds => mkL m ds S
    | none => match binD op a b with
      | some c => .ok (.d c) S
      | none => .no
  | _, _ => .no
def sh (d : D) : Bool := SeqAt.shaped d
def isN : D → Bool
  | .none => true
  | _ => false
mutual
/-- a bound of the length of its repr -/
def cst : PyData → Nat
  | .none => 4
  | .bool _ => 5
  | .int _ => 1921
  | .str x => (reprText x).length
  | .list xs => cstAll xs + 4
  | .tuple xs => cstAll xs + 4
  | .dict _ => 0
def cstAll : List PyData → Nat
  | [] => 0
  | x :: xs => cst x + 2 + cstAll xs
end
def rpB (d : D) : Bool := d.showable && (!d.hasDict && (decide (d.depth ≤ 50) && decide (cst d ≤ sizeLine)))
/-- two values that < may be asked of -/
def ordB (a b : D) : Bool := PySem.W.alike a b && decide (a.depth ≤ 50)
def cmpD : CmpOp → D → D → Option Bool
  | .Eq, .str x, .str y => some (decide (x = y))
  | .NotEq, .str x, .str y => some (!decide (x = y))
  | .Eq, a, b => if sh a = true ∧ sh b = true then some (PyData.eqv a b) else none
  | .NotEq, a, b => if sh a = true ∧ sh b = true then some (!PyData.eqv a b) else none
  | .Lt, .tuple a, .tuple b => if ordB (.tuple a) (.tuple b) = true then some (PySem.W.dataLt (.tuple a) (.tuple b)) else none
  | .Lt, .int i, .int j => some (decide (i < j))
  | .LtE, .int i, .int j => some (decide (i ≤ j))
  | .Gt, .int i, .int j => some (decide (j < i))
  | .GtE, .int i, .int j => some (decide (j ≤ i))
  | .In, a, .list ds => if sh a = true ∧ sh (.list ds) = true then some (ds.any fun z => PyData.eqv z a) else none
  | .NotIn, a, .list ds => if sh a = true ∧ sh (.list ds) = true then some (!ds.any fun z => PyData.eqv z a) else none
  | .In, a, .tuple ds => if sh a = true ∧ sh (.tuple ds) = true then some (ds.any fun z => PyData.eqv z a) else none
  | .NotIn, a, .tuple ds => if sh a = true ∧ sh (.tuple ds) = true then some (!ds.any fun z => PyData.eqv z a) else none
  | .Is, a, .none => some (isN a)
  | .IsNot, a, .none => some (!isN a)
  | .Is, .bool a, .bool b => some (decide (a = b))
  | .IsNot, .bool a, .bool b => some (!decide (a = b))
  | _, _, _ => none
def cmpU (op : CmpOp) (x y : U) (S : Sto) : Option Bool := match der S x, der S y with
  | some a, some b => cmpD op a b
  | _, _ => none
def truD : D → Option Bool
  | .none => some false
  | .bool b => some b
  | .int i => some (i != 0)
  | .str x => if x.length ≤ sizeLine then some ((x.length : Int) != 0) else none
  | .list xs => some (!xs.isEmpty)
  | .tuple xs => some (!xs.isEmpty)
  | .dict _ => none
def tru (u : U) (S : Sto) : Res Bool := match der S u with
  | some d => match truD d with
    | some b => .ok b S
    | none => .no
  | none => .no
def isiD : Ty → D → Bool
  | .int, .int _ => true
  | .int, .bool _ => true
  | .bool, .bool _ => true
  | .tuple, .tuple _ => true
  | .list, .list _ => true
  | .str, .str _ => true
  | _, _ => false
def asBools : List D → Option (List Bool)
  | [] => some []
  | .bool b :: r => (asBools r).map (b :: ·)
  | _ :: _ => none
def asInts : List D → Option (List Int)
  | [] => some []
  | .int b :: r => (asInts r).map (b :: ·)
  | _ :: _ => none
def maxI : List Int → Int
  | [] => 0
  | x :: xs => xs.foldl (fun a b => if b > a then b else a) x
def minI : List Int → Int
  | [] => 0
  | x :: xs => xs.foldl (fun a b => if b < a then b else a) x
def bltD : Bf → List D → Option D
  | .len, [.list xs] => some (.int xs.length)
  | .len, [.tuple xs] => some (.int xs.length)
  | .len, [.str x] => if x.length ≤ sizeLine then some (.int x.length) else none
  | .all, [.list xs] => (asBools xs).map fun bs => .bool (bs.all id)
  | .any, [.list xs] => (asBools xs).map fun bs => .bool (bs.any id)
  | .tuple, [.list xs] => some (.tuple xs)
  | .tuple, [.tuple xs] => some (.tuple xs)
  | .abs, [.int i] => some (.int (if i < 0 then -i else i))
  | .max, [.int i, .int j] => some (.int (if j > i then j else i))
  | .min, [.int i, .int j] => some (.int (if j < i then j else i))
  | .int, [.int i] => some (.int i)
  | .int, [.bool b] => some (.int (if b then 1 else 0))
  | .bool, [.int i] => some (.bool (i != 0))
  | .bool, [.bool b] => some (.bool b)
  | .repr, [d] => if rpB d = true then some (.str d.shown) else none
  | .sum, [.list xs] => (asInts xs).map fun ns => .int ns.sum
  | .divmod, [.int i, .int j] => if 0 < j ∧ j.natAbs.log2 < 9000 then some (.tuple [.int (i / j), .int (i % j)]) else none
  | .gcd, [.int i, .int j] => some (.int ((Nat.gcd i.natAbs j.natAbs : Nat) : Int))
  | .isqrt, [.int i] => if 0 ≤ i ∧ i.toNat.log2 < 13000 then some (.int ((Float64.isqrt i.toNat : Nat) : Int)) else none
  | _, _ => none
def ders (S : Sto) : List U → Option (List D)
  | [] => some []
  | u :: us => match der S u, ders S us with
    | some d, some ds => some (d :: ds)
    | _, _ => none
def bltU (f : Bf) (us : List U) (S : Sto) : Res U := match f, us with
  | .len, [.k xs] => .ok (.d (.int xs.length)) S
  | .list m, [.k xs] => mkL m xs S
  | .list m, us => match ders S us with
    | some [.list xs] => mkL m xs S
    | some [.tuple xs] => mkL m xs S
    | _ => .no
  | f, us => match ders S us with
    | some ds => match bltD f ds with
      | some d => .ok (.d d) S
      | none => .no
    | none => .no
def idxD : D → D → Option D
  | .list xs, .int i => atI xs i
  | .tuple xs, .int i => atI xs i
  | _, _ => none
def idxU (x y : U) (S : Sto) : Res U := match x, y with
  | .k xs, .d (.int i) => match atI xs i with
    | some d => .ok (.d d) S
    | none => .no
  | x, y => match der S x, der S y with
    | some a, some b => match idxD a b with
      | some d => .ok (.d d) S
      | none => .no
    | _, _ => .no
def cutD (xs : List D) (lo hi : Option Int) : List D := (xs.drop (HT.sIx xs.length 0 lo)).take (HT.sIx xs.length xs.length hi - HT.sIx xs.length 0 lo)
def slU (m : Bool) (x : U) (lo hi : Option Int) (S : Sto) : Res U := match x with
  | .k xs => mkL m (cutD xs lo hi) S
  | x => match der S x with
    | some (.list xs) => mkL m (cutD xs lo hi) S
    | some (.tuple xs) => .ok (.d (.tuple (cutD xs lo hi))) S
    | _ => .no
def op1D : O1 → D → Option D
  | .bits, .int i => some (.int (Builtin.Int.intBits i : Nat))
  | .rev, .list xs => some (.list xs.reverse)
  | _, _ => none
/-- the first place of an equal item -/
def firstIx (d : D) : List D → Option Nat
  | [] => none
  | z :: r => if PyData.eqv z d = true then some 0 else (firstIx d r).map (· + 1)
def op2D : O2 → D → D → Option D
  | .index, .list ds, d => if sh d = true ∧ sh (.list ds) = true then (firstIx d ds).map fun (j : Nat) => .int (j : Int) else none
  | .count, .list ds, d => if sh d = true ∧ sh (.list ds) = true then some (.int ((ds.countP fun z => PyData.eqv z d : Nat) : Int)) else none
  | _, _, _ => none
def op1U (f : O1) (x : U) (S : Sto) : Res U := match x with
  | .d a => match op1D f a with
    | some c => .ok (.d c) S
    | none => .no
  | _ => .no
def op2U (f : O2) (x y : U) (S : Sto) : Res U := match der S x, der S y with
  | some a, some b => match op2D f a b with
    | some c => .ok (.d c) S
    | none => .no
  | _, _ => .no
def methU (f : Mt) (o : U) (us : List U) (S : Sto) : Res U := match o with
  | .r i => match S[i]? with
    | some (some xs) => match f, us with
      | .append, [u] => (frz u S).bind fun d S1 => match S1[i]? with
        | some (some ys) => if ys.length < sizeLine then .ok (.d .none) (S1.set i (some (ys ++ [d]))) else .no
        | _ => .no
      | .extend, [u] => match der S u with
        | some (.list ys) => if xs.length + ys.length ≤ sizeLine then .ok (.d .none) (S.set i (some (xs ++ ys))) else .no
        | _ => .no
      | .pop, [] => match xs[xs.length - 1]? with
        | some d => .ok (.d d) (S.set i (some xs.dropLast))
        | none => .no
      | _, _ => .no
    | _ => .no
  | _ => .no
/-- o[i] = v -/
def setU (o i v : U) (S : Sto) : Res Unit := match o, i, v with
  | .r j, .d (.int k), .d d => match S[j]? with
    | some (some xs) => match ixN xs.length k with
      | some n => .ok () (S.set j (some (xs.set n d)))
      | none => .no
    | _ => .no
  | _, _, _ => .no

/-! ### what is walked -/
/-- the items, the lists of one's own among the sources as they stood -/
abbrev Src := List D × List (Nat × List D)
def seqD : U → Sto → Option Src
  | .d (.list xs), _ => some (xs, [])
  | .d (.tuple xs), _ => some (xs, [])
  | .k xs, _ => some (xs, [])
  | .r i, S => match S[i]? with
    | some (some xs) => some (xs, [(i, xs)])
    | _ => none
  | _, _ => none
def seqL : U → Sto → Option Src
  | .d (.list xs), _ => some (xs, [])
  | .k xs, _ => some (xs, [])
  | .r i, S => match S[i]? with
    | some (some xs) => some (xs, [(i, xs)])
    | _ => none
  | _, _ => none
def enumD (xs : List D) : List D := (List.range xs.length).zipWith (fun (i : Nat) (d : D) => PyData.tuple [.int (i : Int), d]) xs
def zipD (xs ys : List D) : List D := xs.zipWith (fun c d => PyData.tuple [c, d]) ys
def zip3D : List D → List D → List D → List D
  | x :: xs, y :: ys, z :: zs => .tuple [x, y, z] :: zip3D xs ys zs
  | _, _, _ => []
def intsD (lo : Int) (n : Nat) : List D := (List.range n).map fun (k : Nat) => PyData.int (lo + (k : Int))
def still (ls : List (Nat × List D)) (S : Sto) : Prop := ∀ p ∈ ls, S[p.1]? = some (some p.2)
/-- how a statement ends -/
inductive Out where
  | nx (e : Env)
  | ret (u : U)
  | bk (e : Env)
  | ct (e : Env)
open Classical in
noncomputable def forL (step : D → Env → Sto → Res Out) (ls : List (Nat × List D)) : List D → Env → Sto → Res Out
  | [], env, S => if still ls S then .ok (.nx env) S else .no
  | x :: xs, env, S => if still ls S then (step x env S).bind fun o S1 => match o with
      | .nx e => forL step ls xs e S1
      | .ct e => forL step ls xs e S1
      | .bk e => .ok (.nx e) S1
      | .ret u => .ok (.ret u) S1
    else .no
open Classical in
noncomputable def compL (step : D → Sto → Res (Option D)) (ls : List (Nat × List D)) : List D → Sto → Res (List D)
  | [], S => if still ls S then .ok [] S else .no
  | x :: xs, S => if still ls S then (step x S).bind fun o S1 => (compL step ls xs S1).bind fun ds S2 => .ok (match o with
      | some d => d :: ds
      | none => ds) S2
    else .no
open Classical in
/-- .. each turn gives some items -/
noncomputable def compLL (step : D → Sto → Res (List D)) (ls : List (Nat × List D)) : List D → Sto → Res (List D)
  | [], S => if still ls S then .ok [] S else .no
  | x :: xs, S => if still ls S then (step x S).bind fun ds S1 => (compLL step ls xs S1).bind fun es S2 => .ok (ds ++ es) S2
    else .no
/-- n turns of a while -/
def whN (c : Env → Sto → Res Bool) (b : Env → Sto → Res Out) : Nat → Env → Sto → Res Out
  | 0, _, _ => .no
  | n + 1, env, S => (c env S).bind fun t S1 => if t = true then (b env S1).bind fun o S2 => match o with
      | .nx e => whN c b n e S2
      | .ct e => whN c b n e S2
      | .bk e => .ok (.nx e) S2
      | .ret u => .ok (.ret u) S2
    else .ok (.nx env) S1
open Classical in
noncomputable def whL (c : Env → Sto → Res Bool) (b : Env → Sto → Res Out) (env : Env) (S : Sto) : Res Out :=
  if h : ∃ n, whN c b n env S ≠ .no then whN c b h.choose env S else .no
def wipeE (env : Env) : List Nat → Env
  | [] => env
  | v :: vs => (wipeE env vs).set v none

/-! ### the run -/
abbrev Calls := Nat → List U → Sto → Res U
def permU (us : List U) (perm : List Nat) (ks : List U) : List U := us ++ perm.filterMap fun j => ks[j]?
mutual
noncomputable def evE : Ex → Calls → Env → Sto → Res U
  | .var i, _, env, S => match env[i]? with
    | some (some u) => .ok u S
    | _ => .no
  | .con d, _, _, S => .ok (.d d) S
  | .bin m op a b, C, env, S => (evE a C env S).bind fun x S1 => (evE b C env S1).bind fun y S2 => binU m op x y S2
  | .neg a, C, env, S => (evE a C env S).bind fun x S1 => match x with
    | .d (.int i) => .ok (.d (.int (-i))) S1
    | _ => .no
  | .not a, C, env, S => ((evE a C env S).bind tru).bind fun b S1 => .ok (.d (.bool (!b))) S1
  | .and a b, C, env, S => (evE a C env S).bind fun x S1 => (tru x S1).bind fun t S2 => if t = true then evE b C env S2 else .ok x S2
  | .or a b, C, env, S => (evE a C env S).bind fun x S1 => (tru x S1).bind fun t S2 => if t = true then .ok x S2 else evE b C env S2
  | .cmp op a b, C, env, S => (evE a C env S).bind fun x S1 => (evE b C env S1).bind fun y S2 => match cmpU op x y S2 with
    | some t => .ok (.d (.bool t)) S2
    | none => .no
  | .cmp2 op op2 a b c, C, env, S => (evE a C env S).bind fun x S1 => (evE b C env S1).bind fun y S2 => match cmpU op x y S2 with
    | some true => (evE c C env S2).bind fun z S3 => match cmpU op2 y z S3 with
      | some t => .ok (.d (.bool t)) S3
      | none => .no
    | some false => .ok (.d (.bool false)) S2
    | none => .no
  | .ite c a b, C, env, S => ((evE c C env S).bind tru).bind fun t S1 => if t = true then evE a C env S1 else evE b C env S1
  | .call f es, C, env, S => (evEs es C env S).bind fun us S1 => C f us S1
  | .callk f es perm ks, C, env, S => (evEs es C env S).bind fun us S1 => (evEs ks C env S1).bind fun vs S2 => C f (permU us perm vs) S2
  | .blt f es, C, env, S => (evEs es C env S).bind fun us S1 => bltU f us S1
  | .isi e t, C, env, S => (evE e C env S).bind fun x S1 => match der S1 x with
    | some d => .ok (.d (.bool (isiD t d))) S1
    | none => .no
  | .idx a b, C, env, S => (evE a C env S).bind fun x S1 => (evE b C env S1).bind fun y S2 => idxU x y S2
  | .sl m a lo hi, C, env, S => (evE a C env S).bind fun x S1 => (evO lo C env S1).bind fun l S2 => (evO hi C env S2).bind fun h S3 => slU m x l h S3
  | .tup es, C, env, S => (evEs es C env S).bind fun us S1 => (frzs us S1).bind fun ds S2 => if ds.length ≤ sizeLine then .ok (.d (.tuple ds)) S2 else .no
  | .lst m es, C, env, S => (evEs es C env S).bind fun us S1 => (frzs us S1).bind fun ds S2 => if ds.length ≤ sizeLine then mkL m ds S2 else .no
  | .comp m own tg it ifs elt, C, env, S => (evI it C env S).bind fun src S1 => if src.1.length < sizeLine then
      (compL (fun x S2 => (asgT tg C (.d x) (wipeE env own) S2).bind fun e2 S3 => (evIfs ifs C e2 S3).bind fun t S4 => if t = true then (evE elt C e2 S4).bind fun u S5 => (frz u S5).bind fun d S6 => .ok (some d) S6 else .ok none S4)
        src.2 src.1 S1).bind fun ds S2 => mkL m ds S2
    else .no
  | .meth f o es, C, env, S => (evE o C env S).bind fun x S1 => match seqD x S1 with
    | some _ => (evEs es C env S1).bind fun us S2 => methU f x us S2
    | none => .no
  | .op1 f a, C, env, S => (evE a C env S).bind fun x S1 => op1U f x S1
  | .op2 f a b, C, env, S => (evE a C env S).bind fun x S1 => match seqL x S1 with
    | some _ => (evE b C env S1).bind fun y S2 => op2U f x y S2
    | none => .no
  | .comp2 m own tg it ifs own1 tg1 it1 ifs1 elt, C, env, S => (evI it C env S).bind fun src S1 =>
      (compLL (fun x S2 => (asgT tg C (.d x) (wipeE env own) S2).bind fun e2 S3 => (evIfs ifs C e2 S3).bind fun t S4 => if t = true then (evI it1 C e2 S4).bind fun src1 S5 =>
          compL (fun y S6 => (asgT tg1 C (.d y) (wipeE e2 own1) S6).bind fun e3 S7 => (evIfs ifs1 C e3 S7).bind fun t1 S8 => if t1 = true then (evE elt C e3 S8).bind fun u S9 => (frz u S9).bind fun d S10 => .ok (some d) S10 else .ok none S8) src1.2 src1.1 S5
        else .ok [] S4)
        src.2 src.1 S1).bind fun ds S2 => if ds.length ≤ sizeLine then mkL m ds S2 else .no
noncomputable def evEs : Exs → Calls → Env → Sto → Res (List U)
  | .nil, _, _, S => .ok [] S
  | .cons e es, C, env, S => (evE e C env S).bind fun u S1 => (evEs es C env S1).bind fun us S2 => .ok (u :: us) S2
noncomputable def evIfs : Exs → Calls → Env → Sto → Res Bool
  | .nil, _, _, S => .ok true S
  | .cons e es, C, env, S => ((evE e C env S).bind tru).bind fun t S1 => if t = true then evIfs es C env S1 else .ok false S1
noncomputable def evO : Eo → Calls → Env → Sto → Res (Option Int)
  | .none, _, _, S => .ok none S
  | .some e, C, env, S => (evE e C env S).bind fun x S1 => match x with
    | .d (.int i) => .ok (some i) S1
    | _ => .no
noncomputable def evI : Itr → Calls → Env → Sto → Res Src
  | .ex e, C, env, S => (evE e C env S).bind fun x S1 => match seqD x S1 with
    | some s => .ok s S1
    | none => .no
  | .range1 a, C, env, S => (evE a C env S).bind fun x S1 => match x with
    | .d (.int j) => if -(2 ^ 62) ≤ j ∧ j < 2 ^ 62 then .ok (intsD 0 j.toNat, []) S1 else .no
    | _ => .no
  | .range2 a b, C, env, S => (evE a C env S).bind fun x S1 => (evE b C env S1).bind fun y S2 => match x, y with
    | .d (.int i), .d (.int j) => if -(2 ^ 62) ≤ i ∧ i < 2 ^ 62 ∧ -(2 ^ 62) ≤ j ∧ j < 2 ^ 62 then .ok (intsD i (j - i).toNat, []) S2 else .no
    | _, _ => .no
  | .enum a, C, env, S => (evE a C env S).bind fun x S1 => match seqD x S1 with
    | some s => .ok (enumD s.1, s.2) S1
    | none => .no
  | .zip a b, C, env, S => (evE a C env S).bind fun x S1 => (evE b C env S1).bind fun y S2 => match seqL x S2, seqL y S2 with
    | some s, some t => .ok (zipD s.1 t.1, s.2 ++ t.2) S2
    | _, _ => match x, y with
      | .d (.tuple xs), .d (.tuple ys) => .ok (zipD xs ys, []) S2
      | _, _ => .no
  | .zip3 a b c, C, env, S => (evE a C env S).bind fun x S1 => (evE b C env S1).bind fun y S2 => (evE c C env S2).bind fun w S3 => match x, y, w with
    | .d (.tuple xs), .d (.tuple ys), .d (.tuple zs) => .ok (zip3D xs ys zs, []) S3
    | _, _, _ => .no
  | .rev a, C, env, S => (evE a C env S).bind fun x S1 => match seqD x S1 with
    | some s => .ok (s.1.reverse, s.2) S1
    | none => .no
noncomputable def asgT : Tg → Calls → U → Env → Sto → Res Env
  | .name i, _, u, env, S => .ok (env.set i (some u)) S
  | .sub o i, C, u, env, S => (evE o C env S).bind fun x S1 => (evE i C env S1).bind fun y S2 => (setU x y u S2).bind fun _ S3 => .ok env S3
  | .tup ts, C, u, env, S => match u with
    | .d (.tuple ds) => asgTs ts C ds env S
    | .d (.list ds) => asgTs ts C ds env S
    | _ => .no
noncomputable def asgTs : Tgs → Calls → List D → Env → Sto → Res Env
  | .nil, _, ds, env, S => match ds with
    | [] => .ok env S
    | _ => .no
  | .cons t ts, C, ds, env, S => match ds with
    | d :: r => (asgT t C (.d d) env S).bind fun e1 S1 => asgTs ts C r e1 S1
    | [] => .no
end
noncomputable abbrev evT (e : Ex) (C : Calls) (env : Env) (S : Sto) : Res Bool := (evE e C env S).bind tru
def setAll (env : Env) : List Nat → List U → Env
  | i :: is, u :: us => setAll (env.set i (some u)) is us
  | _, _ => env
mutual
noncomputable def exS : St → Calls → Env → Sto → Res Out
  | .asg t e, C, env, S => (evE e C env S).bind fun u S1 => (asgT t C u env S1).bind fun e2 S2 => .ok (.nx e2) S2
  | .par is es, C, env, S => (evEs es C env S).bind fun us S1 => if us.length = is.length then .ok (.nx (setAll env is us)) S1 else .no
  | .aug i op e, C, env, S => match env[i]? with
    | some (some u) => (evE e C env S).bind fun v S1 => match u, v with
      | .d (.int a), .d (.int b) => match binD op (.int a) (.int b) with
        | some c => .ok (.nx (env.set i (some (.d c)))) S1
        | none => .no
      | _, _ => .no
    | _ => .no
  | .augS o i op e, C, env, S => (evE o C env S).bind fun x S1 => (evE i C env S1).bind fun y S2 => (idxU x y S2).bind fun z S3 => (evE e C env S3).bind fun v S4 => match z, v with
    | .d (.int a), .d (.int b) => match binD op (.int a) (.int b) with
      | some c => (setU x y (.d c) S4).bind fun _ S5 => .ok (.nx env) S5
      | none => .no
    | _, _ => .no
  | .ex e, C, env, S => (evE e C env S).bind fun _ S1 => .ok (.nx env) S1
  | .ret f e, C, env, S => (evE e C env S).bind fun u S1 => if f = true then (frz u S1).bind fun d S2 => .ok (.ret (.d d)) S2 else .ok (.ret u) S1
  | .ifs c a b, C, env, S => (evT c C env S).bind fun t S1 => if t = true then exSs a C env S1 else exSs b C env S1
  | .for_ t it b, C, env, S => (evI it C env S).bind fun src S1 => forL (fun x e S2 => (asgT t C (.d x) e S2).bind fun e2 S3 => exSs b C e2 S3) src.2 src.1 env S1
  | .whl c b, C, env, S => whL (fun e S1 => evT c C e S1) (fun e S1 => exSs b C e S1) env S
  | .pass, _, env, S => .ok (.nx env) S
  | .brk, _, env, S => .ok (.bk env) S
  | .cont, _, env, S => .ok (.ct env) S
  | .dead, _, _, _ => .no
noncomputable def exSs : Sts → Calls → Env → Sto → Res Out
  | .nil, _, env, S => .ok (.nx env) S
  | .cons s ss, C, env, S => (exS s C env S).bind fun o S1 => match o with
    | .nx e => exSs ss C e S1
    | o => .ok o S1
end
/-- a def, compiled -/
structure Fd where
  np : Nat
  nn : Nat
  code : Sts
abbrev Tab := List Fd
/-- behind a call: what the callee made is gone, but a list that it hands back -/
def fin (n : Nat) (o : Out) (S : Sto) : Res U := match o with
  | .ret (.r i) => if i < n then .ok (.r i) (S.take n) else match S[i]? with
    | some c => .ok (.r n) (S.take n ++ [c])
    | none => .no
  | .ret (.d x) => .ok (.d x) (S.take n)
  | .nx _ => .ok (.d .none) (S.take n)
  | _ => .no
noncomputable def call (T : Tab) : Nat → Calls
  | 0 => fun _ _ _ => .no
  | k + 1 => fun f us S => match T[f]? with
    | some d => if us.length = d.np ∧ d.np ≤ d.nn then (exSs d.code (call T k) (us.map some ++ List.replicate (d.nn - d.np) none) S).bind fun o S1 => fin S.length o S1 else .no
    | none => .no
end Ev
/-! walking with counts over tuples; three tuples at once. -/
namespace EvT
open PySem PySem.Spec PyProof.Rows L2
theorem meets_enumerate_newB1 {v : Value} {o : Obj} {H : Heap → Prop} (B : Begins v o H) :
    Meets (Builtin.«enumerate.__new__» ⟨[.type "enumerate", v], []⟩) (fun _ R s => H s.heap ∧
      R (.ok (.ret (.ref (s.heap.push o).objs.size))) { s with heap := (s.heap.push o).push { cls := .type "enumerate", data := .fields #[.none, .bool false, .ref s.heap.objs.size, rawInt 0, .none, .none] } }) :=
  .of_wp fun prog w A R s h => by
    obtain ⟨hp, g, d, tk, os⟩ := s; obtain ⟨h1, h⟩ := h
    have hsub := sub_enumerate
    have q1 : ∀ {A' : Around} {E : Value → Shared → Prop} {Q : Value → Shared → Prop}, Q (.ref hp.objs.size) ⟨hp.push o, g, d, tk, os⟩ → wpAny (model prog w) A' (pyIter v) Q E ⟨hp, g, d, tk, os⟩ :=
      fun q => B.iter prog w _ _ ⟨hp, g, d, tk, os⟩ _ h1 q
    wp_walk using q1
    refine wpAny_stack_any fun st => wpAny_pure ?_
    split
    · rename_i c _ _ _ _ _
      cases (c == Value.type "enumerate")
      · wp_walk using q1
        exact ⟨_, rfl, h⟩
      · wp_walk using q1
        exact ⟨_, rfl, h⟩
    · wp_walk using q1
      exact ⟨_, rfl, h⟩
section
variable {prog : Program} {w : World} {A : Around} {E : Value → Shared → Prop} {s : Shared}
theorem enum_begins1 {v : Value} {o : Obj} {H : Heap → Prop} {Q : Value → Shared → Prop} (B : Begins v o H) (h1 : H s.heap)
    (h : ∀ h', IsEnum h' (s.heap.objs.size + 1) s.heap.objs.size 0 .none → h'.get? s.heap.objs.size = some o → h'.objs.size = s.heap.objs.size + 2 →
      (∀ b o, s.heap.get? b = some o → h'.get? b = some o) → Q (.ref (s.heap.objs.size + 1)) { s with heap := h' }) :
    wpAny (model prog w) A (call (.type "enumerate") [v]) Q E s := by
  refine callType_new F.called_enumerate (by decide) (F.typeCall_enumerate_1 _) (F.newCall_enumerate_1 _) (fun obj => F.args_object_init_2 obj _) F.entry_enumerate_new
    (meets_enumerate_newB1 B) ⟨h1, ?_⟩
  have hz : (s.heap.push o).objs.size = s.heap.objs.size + 1 := Heap.size_push ..
  show _ ∧ _
  rw [hz]
  have he : IsEnum ((s.heap.push o).push { cls := .type "enumerate", data := .fields #[.none, .bool false, .ref s.heap.objs.size, rawInt 0, .none, .none] }) (s.heap.objs.size + 1) s.heap.objs.size 0 .none := by
    have := Heap.get?_push_size (s.heap.push o) (o := { cls := .type "enumerate", data := .fields #[.none, .bool false, .ref s.heap.objs.size, rawInt 0, .none, .none] }) rfl
    rw [hz] at this; exact this
  refine ⟨⟨_, he, rfl⟩, h _ he (Heap.get?_push_of_some _ (Heap.get?_push_size _ B.free)) (by rw [Heap.size_push, hz]) fun b o x => Heap.get?_push_of_some _ (Heap.get?_push_of_some _ x)⟩
end
/-- the tuple at a as it stands at each turn, each item in a new pair -/
def IteT (K : PySem.W.Frag) (a : Addr) : It :=
  ⟨fun i H => ∃ (xs : List V) (x : V), SqT K H a xs ∧ xs[i]? = some x, fun i H v H' => ∃ T x, v = .ref T ∧ H T = none ∧ H' = upd H T (.tup [.int (i : Nat), x]) ∧ ∀ xs, SqT K H a xs → xs[i]? = some x, fun i H => ∃ xs : List V, SqT K H a xs ∧ i = xs.length⟩
theorem turn_enumT {P : Program} {w : World} {K : PySem.W.Frag} {elts : List Expr} {kk : Nat} {tpos : Pos} (a e it : Addr) (hne : e ≠ it) (hea : e ≠ a) (hia : a ≠ it) :
    Turn P w K (.Tuple elts kk tpos) (IteT K a) [e, it] e (fun i h => (∃ old, IsEnum h e it ((i : Nat) : Int) old) ∧ h.IsTupleIter it a i) where
  mem := by simp
  obj := fun i h st b hb => by
    obtain ⟨⟨old, he⟩, ⟨o, ho, hc, hd⟩⟩ := st
    have e' : b = e ∨ b = it := by simpa using hb
    rcases e' with z | z
    · rw [z]; exact ⟨_, he, fun v q => nomatch q⟩
    · rw [z]; exact ⟨o, ho, fun v q => by rw [hd] at q; cases q⟩
  keep := fun i h h' st k => let ⟨⟨old, he⟩, hi⟩ := st; ⟨⟨old, k e (by simp) _ he⟩, hi.at fun o q => k it (by simp) o q⟩
  item := by
    intro X hP hw hK hc i pins s σ H E I hf st hg
    subst hP hw hK
    obtain ⟨⟨old, he⟩, hit⟩ := st
    obtain ⟨xs, x, hq, hx⟩ := hg
    obtain ⟨its, rv, p, hz⟩ := I.tuple hq
    obtain ⟨u, hu, ru⟩ := rv.get hx
    have hel : e < s.heap.objs.size := Heap.lt_size he
    have hil : it < s.heap.objs.size := by obtain ⟨_, q, _⟩ := hit; exact Heap.lt_size q
    have D := Draws.tuple (prog := X.prog) (w := X.w) (A := X.A.in1) (I.ok.hd hc) it a hia its.toArray
    have hil2 : i < its.toArray.size := by
      have := (List.getElem?_eq_some_iff.mp hu).1
      simpa using this
    refine wpAny_pyNext_enum_itemD D he ⟨hit, p⟩ hil2 hne (by simp [hne, hea]) fun x' h' tk hP ho hst' hT hsz hk => ?_
    have ex : x' = u := by
      have h1 : its[i]? = some x' := by simpa using hP
      rw [hu] at h1
      exact (Option.some.inj h1).symm
    subst ex
    refine ⟨_, rfl, wpAny_letOwnedTupleGo_enum (s := { s with heap := h', toks := tk + 1 }) ho fun h'' he' sb => ?_⟩
    have hT2 : h''.get? s.heap.objs.size = some { cls := .type "tuple", data := .seq #[.int i tk, x'] } := (sb.2 _ (Nat.ne_of_gt hel)).trans hT
    have new : ObjOk X.prog X.w (upd H s.heap.objs.size (.tup [.int (i : Nat), x])) h'' s.heap.objs.size (.tup [.int (i : Nat), x]) :=
      ⟨by show 2 ≤ sizeLine; decide, [.int i tk, x'], .cons ⟨_, rfl⟩ (.cons ru .nil), ⟨_, hT2, rfl, _, rfl⟩⟩
    have I1 : Inv X pins σ (upd H s.heap.objs.size (.tup [.int (i : Nat), x])) { s with heap := h'', toks := tk + 1 } :=
      I.turnedNew (ch := [e, it]) (fun b ob hb q => (sb.2 b (fun z => hb (by simp [z]))).trans (hk b ob (fun z => hb (by simp [z])) (fun z => hb (by simp [z])) q)) hf (Nat.le_refl _) new
    refine ⟨.ref s.heap.objs.size, _, I1, rfl, ⟨_, x, rfl, I.hok.fresh (Nat.le_refl _), rfl, fun ys hy => by rw [I.tuple_inj hy hq]; exact hx⟩, ⟨⟨x', ?_⟩, hst'.1.at fun o q => (sb.2 it (Ne.symm hne)).trans q⟩, fun b hb => ?_⟩
    · have e1 : ((i + 1 : Nat) : Int) = (i : Int) + 1 := by omega
      rw [e1]; exact he'
    · have hb' : b < s.heap.objs.size := by
        have e' : b = e ∨ b = it := by simpa using hb
        rcases e' with z | z
        · rw [z]; exact hel
        · rw [z]; exact hil
      rw [upd_ne (Nat.ne_of_lt hb')]
      exact (hf b hb).1
  done := by
    intro X hP hw hK hc i pins s σ H E I hf st hg
    subst hP hw hK
    obtain ⟨⟨old, he⟩, hit⟩ := st
    obtain ⟨xs, hq, hx⟩ := hg
    obtain ⟨its, rv, p, hz⟩ := I.tuple hq
    obtain ⟨f0, f1, f2, f3, f4, f5⟩ := hf it (by simp)
    have hl := rv.length
    have D := Draws.tuple (prog := X.prog) (w := X.w) (A := X.A.in1) (I.ok.hd hc) it a hia its.toArray
    have en : i = its.toArray.size := by simp; omega
    rw [en] at he hit
    exact wpAny_pyNext_enum_endD D he ⟨hit, p⟩ fun h' eb => ⟨rfl, I.turned (t' := s.toks) (fun b o hb q => eb b o hb q) f0 f1 f3 f4 f5⟩
  self := fun A i s Q E st h => let ⟨⟨_, he⟩, _⟩ := st; wpAny_pyIter_enum he h
def iEnumA (K : PySem.W.Frag) (ta : TA) : TI := fun σ H R => ta σ H fun vs H1 => ∃ a xs, vs = [.ref a] ∧ ((SqL K H1 a xs ∧ R (Ite K a) H1) ∨ (SqT K H1 a xs ∧ R (IteT K a) H1))
theorem pi_enumA {X : Cx} {e : Expr} {ta : TA} {p pos tpos : Pos} {elts : List Expr} {kk : Nat} (hg : Gl X "enumerate") (hm : X.mg "enumerate" = none) (ha : PA X [e] ta) (hs : starEach [e] X.env = [(false, eval e X.env)] := by rfl) :
    PI X (.Tuple elts kk tpos) (.Call (.Name "enumerate" p) [e] [] pos) (iEnumA X.K ta) := by
  refine ⟨fun pins s σ H R I h => ?_⟩
  refine Call_ (ld_blt I hg hm boot_enumerate (PyProof.Rows.callWith_type1 (thn (ha.run pos pins s σ H _ I h) fun us s1 ⟨vs, H1, I1, r1, q1⟩ => ?_) hs rfl))
  obtain ⟨a, xs, ex, q1⟩ := q1
  subst ex
  cases r1 with
  | cons r rr =>
    cases rr
    cases r
    have fresh : ∀ b ∈ [s1.heap.objs.size + 1, s1.heap.objs.size], FpOk X pins H1 b := fun b hb => by
      have e' : b = s1.heap.objs.size + 1 ∨ b = s1.heap.objs.size := by simpa using hb
      have hle : s1.heap.objs.size ≤ b := by
        rcases e' with z | z
        · rw [z]; exact Nat.le_add_right _ _
        · rw [z]; exact Nat.le_refl _
      exact I1.fpOk hle (I1.hok.fresh hle)
    rcases q1 with ⟨hq, q⟩ | ⟨hq, q⟩
    · obtain ⟨its, rv, p', hz⟩ := I1.list hq
      refine call_enumerate_list p'.isList fun h' he hit hsz hk => wpAny_pyIter_enum he ?_
      have I2 : Inv X pins σ H1 { s1 with heap := h' } := I1.kept (t' := s1.toks) hk
      exact ⟨s1.heap.objs.size + 1, [s1.heap.objs.size + 1, s1.heap.objs.size], _, _, H1, rfl, I2, turn_enum a (s1.heap.objs.size + 1) s1.heap.objs.size, ⟨⟨.none, he⟩, hit, Nat.succ_ne_self _⟩, fresh, q⟩
    · obtain ⟨its, rv, p', hz⟩ := I1.tuple hq
      obtain ⟨o1, ho1, _⟩ := id p'
      have hla : a < s1.heap.objs.size := Heap.lt_size ho1
      refine enum_begins1 (begins_tuple a its.toArray) (show s1.heap.IsTuple a its.toArray from p') fun h' he hit hsz hk => wpAny_pyIter_enum he ?_
      have I2 : Inv X pins σ H1 { s1 with heap := h' } := I1.kept (t' := s1.toks) hk
      exact ⟨s1.heap.objs.size + 1, [s1.heap.objs.size + 1, s1.heap.objs.size], _, _, H1, rfl, I2, turn_enumT a (s1.heap.objs.size + 1) s1.heap.objs.size (Nat.succ_ne_self _) (Nat.ne_of_gt (Nat.lt_succ_of_lt hla)) (Nat.ne_of_lt hla), ⟨⟨.none, he⟩, ⟨_, hit, rfl, rfl⟩⟩, fresh, q⟩
/-! ### three tuples -/
def Itz3 (K : PySem.W.Frag) (a b c : Addr) : It :=
  ⟨fun i H => ∃ (xs ys zs : List V) (x y z : V), SqT K H a xs ∧ SqT K H b ys ∧ SqT K H c zs ∧ xs[i]? = some x ∧ ys[i]? = some y ∧ zs[i]? = some z,
    fun i H v H' => ∃ T x y z, v = .ref T ∧ H T = none ∧ H' = upd H T (.tup [x, y, z]) ∧ (∀ xs, SqT K H a xs → xs[i]? = some x) ∧ (∀ ys, SqT K H b ys → ys[i]? = some y) ∧ ∀ zs, SqT K H c zs → zs[i]? = some z,
    fun i H => ∃ xs ys zs : List V, SqT K H a xs ∧ SqT K H b ys ∧ SqT K H c zs ∧ i ≤ xs.length ∧ i ≤ ys.length ∧ i ≤ zs.length ∧ (i = xs.length ∨ i = ys.length ∨ i = zs.length)⟩
theorem nmem {x y z : Nat} (h1 : x ≠ y) (h2 : x ≠ z) : x ∉ [y, z] := by simp [h1, h2]
theorem apart3 (n a b c : Nat) (ha : a < n) (hb : b < n) (hc : c < n) : ZipSep3 (n + 5) (n + 3) (n + 4) n (n + 1) (n + 2) [n, a] [n + 1, b] [n + 2, c] := by
  have p1 : (n + 3 : Nat) ≠ n + 5 := by omega
  have p2 : (n + 4 : Nat) ≠ n + 5 := by omega
  have p3 : (n + 3 : Nat) ≠ n + 4 := by omega
  have p4 : (n + 3 : Nat) ≠ n := by omega
  have p5 : (n + 5 : Nat) ≠ n := by omega
  have p6 : (n + 5 : Nat) ≠ a := by omega
  have p7 : (n + 4 : Nat) ≠ n := by omega
  have p8 : (n + 4 : Nat) ≠ a := by omega
  have p9 : (n + 3 : Nat) ≠ n + 1 := by omega
  have p10 : (n + 5 : Nat) ≠ n + 1 := by omega
  have p11 : (n + 5 : Nat) ≠ b := by omega
  have p12 : (n + 4 : Nat) ≠ n + 1 := by omega
  have p13 : (n + 4 : Nat) ≠ b := by omega
  have p14 : (n + 3 : Nat) ≠ n + 2 := by omega
  have p15 : (n + 5 : Nat) ≠ n + 2 := by omega
  have p16 : (n + 5 : Nat) ≠ c := by omega
  have p17 : (n + 4 : Nat) ≠ n + 2 := by omega
  have p18 : (n + 4 : Nat) ≠ c := by omega
  have q1 : (n : Nat) ≠ n + 1 := by omega
  have q2 : (n : Nat) ≠ b := by omega
  have q3 : (n : Nat) ≠ n + 2 := by omega
  have q4 : (n : Nat) ≠ c := by omega
  have q5 : (n + 1 : Nat) ≠ n := by omega
  have q6 : (n + 1 : Nat) ≠ a := by omega
  have q7 : (n + 1 : Nat) ≠ n + 2 := by omega
  have q8 : (n + 1 : Nat) ≠ c := by omega
  have q9 : (n + 2 : Nat) ≠ n := by omega
  have q10 : (n + 2 : Nat) ≠ a := by omega
  have q11 : (n + 2 : Nat) ≠ n + 1 := by omega
  have q12 : (n + 2 : Nat) ≠ b := by omega
  exact ⟨p1, p2, p3, p4, List.mem_cons_self, nmem p5 p6, nmem p7 p8, p9, List.mem_cons_self, nmem p10 p11, nmem p12 p13, p14, List.mem_cons_self, nmem p15 p16, nmem p17 p18, nmem q1 q2, nmem q3 q4, nmem q5 q6, nmem q7 q8, nmem q9 q10, nmem q11 q12⟩
theorem turn_zip3 {P : Program} {w : World} {K : PySem.W.Frag} {elts : List Expr} {kk : Nat} {tpos : Pos} {a b c z TI TO i1 i2 i3 : Addr} (D : ZipSep3 z TI TO i1 i2 i3 [i1, a] [i2, b] [i3, c]) (na : a ≠ i1) (nb : b ≠ i2) (nc : c ≠ i3) :
    Turn P w K (.Tuple elts kk tpos) (Itz3 K a b c) [z, TI, TO, i1, i2, i3] z (fun i h => IsZip h z TI TO .none ∧ IsTupOf3 h TI (.ref i1) (.ref i2) (.ref i3) ∧ (∃ x y u, IsTupOf3 h TO x y u) ∧ h.IsTupleIter i1 a i ∧ h.IsTupleIter i2 b i ∧ h.IsTupleIter i3 c i) where
  mem := by simp
  obj := fun i h st d hd => by
    obtain ⟨hz, hTI, ⟨x, y, u, hTO⟩, ⟨o1, e1, _, d1⟩, ⟨o2, e2, _, d2⟩, ⟨o3, e3, _, d3⟩⟩ := st
    have e' : d = z ∨ d = TI ∨ d = TO ∨ d = i1 ∨ d = i2 ∨ d = i3 := by simpa using hd
    rcases e' with q | q | q | q | q | q
    · rw [q]; exact ⟨_, hz, fun v q => nomatch q⟩
    · rw [q]; exact ⟨_, hTI, fun v q => nomatch q⟩
    · rw [q]; exact ⟨_, hTO, fun v q => nomatch q⟩
    · rw [q]; exact ⟨o1, e1, fun v q => by rw [d1] at q; cases q⟩
    · rw [q]; exact ⟨o2, e2, fun v q => by rw [d2] at q; cases q⟩
    · rw [q]; exact ⟨o3, e3, fun v q => by rw [d3] at q; cases q⟩
  keep := fun i h h' st k => by
    obtain ⟨hz, hTI, ⟨x, y, u, hTO⟩, h1, h2, h3⟩ := st
    exact ⟨k z (by simp) _ hz, k TI (by simp) _ hTI, ⟨x, y, u, k TO (by simp) _ hTO⟩, h1.at fun o q => k i1 (by simp) o q, h2.at fun o q => k i2 (by simp) o q, h3.at fun o q => k i3 (by simp) o q⟩
  item := by
    intro X hP hw hK hc i pins s σ H E I hf st hg
    subst hP hw hK
    obtain ⟨hz, hTI, ⟨x0, y0, u0, hTO⟩, h1, h2, h3⟩ := st
    obtain ⟨xs, ys, us, x, y, u, hqx, hqy, hqu, hx, hy, hu⟩ := hg
    obtain ⟨its, rv, p, _⟩ := I.tuple hqx
    obtain ⟨its2, rv2, p2, _⟩ := I.tuple hqy
    obtain ⟨its3, rv3, p3, _⟩ := I.tuple hqu
    obtain ⟨v1, hv1, r1⟩ := rv.get hx
    obtain ⟨v2, hv2, r2⟩ := rv2.get hy
    obtain ⟨v3, hv3, r3⟩ := rv3.get hu
    have hzl : z < s.heap.objs.size := Heap.lt_size hz
    have D1 := Draws.tuple (prog := X.prog) (w := X.w) (A := X.A.in1) (I.ok.hd hc) i1 a na its.toArray
    have D2 := Draws.tuple (prog := X.prog) (w := X.w) (A := X.A.in1) (I.ok.hd hc) i2 b nb its2.toArray
    have D3 := Draws.tuple (prog := X.prog) (w := X.w) (A := X.A.in1) (I.ok.hd hc) i3 c nc its3.toArray
    have L1 : i < its.toArray.size := by simpa using (List.getElem?_eq_some_iff.mp hv1).1
    have L2 : i < its2.toArray.size := by simpa using (List.getElem?_eq_some_iff.mp hv2).1
    have L3 : i < its3.toArray.size := by simpa using (List.getElem?_eq_some_iff.mp hv3).1
    refine wpAny_pyNext_zipD3_item D D1 D2 D3 hz hTI hTO ⟨h1, p⟩ ⟨h2, p2⟩ ⟨h3, p3⟩ L1 L2 L3 fun w1 w2 w3 h' tk P1 P2 P3 z' TO' s1' s2' s3' hT hsz hk => ?_
    have q1 : w1 = v1 := by have h1 : its[i]? = some w1 := by simpa using P1
                            rw [hv1] at h1; exact (Option.some.inj h1).symm
    have q2 : w2 = v2 := by have h1 : its2[i]? = some w2 := by simpa using P2
                            rw [hv2] at h1; exact (Option.some.inj h1).symm
    have q3 : w3 = v3 := by have h1 : its3[i]? = some w3 := by simpa using P3
                            rw [hv3] at h1; exact (Option.some.inj h1).symm
    subst q1 q2 q3
    refine ⟨_, rfl, wpAny_letOwnedTupleGo_zip (s := { s with heap := h', toks := tk }) z' fun h'' z'' sb => ?_⟩
    have hT2 : h''.get? s.heap.objs.size = some { cls := .type "tuple", data := .seq #[w1, w2, w3] } := (sb.2 _ (Nat.ne_of_gt hzl)).trans hT
    have new : ObjOk X.prog X.w (upd H s.heap.objs.size (.tup [x, y, u])) h'' s.heap.objs.size (.tup [x, y, u]) :=
      ⟨by show 3 ≤ sizeLine; decide, [w1, w2, w3], .cons r1 (.cons r2 (.cons r3 .nil)), ⟨_, hT2, rfl, _, rfl⟩⟩
    have kk : ∀ d o, d ≠ z → d ≠ TO → d ≠ i1 → d ≠ i2 → d ≠ i3 → s.heap.get? d = some o → h''.get? d = some o := fun d o n1 n2 n3 n4 n5 q => (sb.2 d n1).trans (hk d o n1 n2 n3 n4 n5 q)
    have I1 : Inv X pins σ (upd H s.heap.objs.size (.tup [x, y, u])) { s with heap := h'', toks := tk } :=
      I.turnedNew (t' := tk) (ch := [z, TI, TO, i1, i2, i3]) (fun d o hb q => kk d o (fun q' => hb (by simp [q'])) (fun q' => hb (by simp [q'])) (fun q' => hb (by simp [q'])) (fun q' => hb (by simp [q'])) (fun q' => hb (by simp [q'])) q) hf (Nat.le_refl _) new
    refine ⟨.ref s.heap.objs.size, _, I1, rfl, ⟨_, x, y, u, rfl, I.hok.fresh (Nat.le_refl _), rfl, fun l hl => by rw [I.tuple_inj hl hqx]; exact hx, fun l hl => by rw [I.tuple_inj hl hqy]; exact hy, fun l hl => by rw [I.tuple_inj hl hqu]; exact hu⟩, ⟨z'', ?_, ⟨w1, w2, w3, ?_⟩, ?_, ?_, ?_⟩, fun d hdm => ?_⟩
    · exact kk _ _ D.TIz D.TITO D.TIi1 D.TIi2 D.TIi3 hTI
    · exact (sb.2 _ D.TOz).trans TO'
    · exact s1'.1.at fun o q => (sb.2 _ (Ne.symm D.zi1)).trans q
    · exact s2'.1.at fun o q => (sb.2 _ (Ne.symm D.zi2)).trans q
    · exact s3'.1.at fun o q => (sb.2 _ (Ne.symm D.zi3)).trans q
    · have hlt : d < s.heap.objs.size := by
        have e' : d = z ∨ d = TI ∨ d = TO ∨ d = i1 ∨ d = i2 ∨ d = i3 := by simpa using hdm
        rcases e' with q | q | q | q | q | q
        · rw [q]; exact hzl
        · rw [q]; exact Heap.lt_size hTI
        · rw [q]; exact Heap.lt_size hTO
        · rw [q]; obtain ⟨_, e1, _⟩ := h1; exact Heap.lt_size e1
        · rw [q]; obtain ⟨_, e2, _⟩ := h2; exact Heap.lt_size e2
        · rw [q]; obtain ⟨_, e3, _⟩ := h3; exact Heap.lt_size e3
      rw [upd_ne (Nat.ne_of_lt hlt)]
      exact (hf d hdm).1
  done := by
    intro X hP hw hK hc i pins s σ H E I hf st hg
    subst hP hw hK
    obtain ⟨hz, hTI, ⟨x0, y0, u0, hTO⟩, h1, h2, h3⟩ := st
    obtain ⟨xs, ys, us, hqx, hqy, hqu, l1, l2, l3, hend⟩ := hg
    obtain ⟨its, rv, p, _⟩ := I.tuple hqx
    obtain ⟨its2, rv2, p2, _⟩ := I.tuple hqy
    obtain ⟨its3, rv3, p3, _⟩ := I.tuple hqu
    have g1 := rv.length
    have g2 := rv2.length
    have g3 := rv3.length
    have D1 := Draws.tuple (prog := X.prog) (w := X.w) (A := X.A.in1) (I.ok.hd hc) i1 a na its.toArray
    have D2 := Draws.tuple (prog := X.prog) (w := X.w) (A := X.A.in1) (I.ok.hd hc) i2 b nb its2.toArray
    have D3 := Draws.tuple (prog := X.prog) (w := X.w) (A := X.A.in1) (I.ok.hd hc) i3 c nc its3.toArray
    have z1 : its.toArray.size = its.length := by simp
    have z2 : its2.toArray.size = its2.length := by simp
    have z3 : its3.toArray.size = its3.length := by simp
    exact wpAny_pyNext_zipD3_end D D1 D2 D3 hz hTI hTO ⟨h1, p⟩ ⟨h2, p2⟩ ⟨h3, p3⟩ (by omega) (by omega) (by omega) (by omega) fun h' tk hk => ⟨rfl, I.turnedL (t' := tk) (ch := [z, TI, TO, i1, i2, i3]) (fun d o hb q =>
      hk d o (fun q' => hb (by simp [q'])) (fun q' => hb (by simp [q'])) (fun q' => hb (by simp [q'])) (fun q' => hb (by simp [q'])) (fun q' => hb (by simp [q'])) q) hf⟩
  self := fun A i s Q E st h => wpAny_pyIter_zip st.1 h
def iZip3 (K : PySem.W.Frag) (ta : TA) : TI := fun σ H R => ta σ H fun vs H1 => ∃ a b c xs ys zs, vs = [.ref a, .ref b, .ref c] ∧ SqT K H1 a xs ∧ SqT K H1 b ys ∧ SqT K H1 c zs ∧ R (Itz3 K a b c) H1
theorem pi_zip3 {X : Cx} {e e2 e3 : Expr} {ta : TA} {p pos tpos : Pos} {elts : List Expr} {kk : Nat} (hg : Gl X "zip") (hm : X.mg "zip" = none) (ha : PA X [e, e2, e3] ta)
    (hs : starEach [e, e2, e3] X.env = (false, eval e X.env) :: starEach [e2, e3] X.env := by rfl) (hpl : (backTo pos (starEach [e2, e3] X.env)).any (·.1) = false := by rfl) :
    PI X (.Tuple elts kk tpos) (.Call (.Name "zip" p) [e, e2, e3] [] pos) (iZip3 X.K ta) := by
  refine ⟨fun pins s σ H R I h => ?_⟩
  refine Call_ (ld_blt I hg hm PyProof.Rows.boot_zip (PyProof.Rows.callWith_type1 (thn (ha.run pos pins s σ H _ I h) fun us s1 ⟨vs, H1, I1, r1, q1⟩ => ?_) hs hpl))
  obtain ⟨a, b, c, xs, ys, zs, ex, hqx, hqy, hqz, q⟩ := q1
  subst ex
  cases r1 with
  | cons r rr =>
    cases rr with
    | cons r' rr =>
      cases rr with
      | cons r'' rr =>
        cases rr
        cases r
        cases r'
        cases r''
        obtain ⟨its, rv, p1, _⟩ := I1.tuple hqx
        obtain ⟨its2, rv2, p2, _⟩ := I1.tuple hqy
        obtain ⟨its3, rv3, p3, _⟩ := I1.tuple hqz
        obtain ⟨o1, ho1, _⟩ := id p1
        obtain ⟨o2, ho2, _⟩ := id p2
        obtain ⟨o3, ho3, _⟩ := id p3
        have la := Heap.lt_size ho1
        have lb := Heap.lt_size ho2
        have lc := Heap.lt_size ho3
        refine zip_begins3 (begins_tuple a its.toArray) (begins_tuple b its2.toArray) (begins_tuple c its3.toArray) (show s1.heap.IsTuple a its.toArray from p1) (show s1.heap.IsTuple b its2.toArray from p2) (show s1.heap.IsTuple c its3.toArray from p3) fun h' hz hTI hTO g1 g2 g3 hsz hk => wpAny_pyIter_zip hz ?_
        have I2 : Inv X pins σ H1 { s1 with heap := h' } := I1.kept (t' := s1.toks) hk
        refine ⟨s1.heap.objs.size + 5, [s1.heap.objs.size + 5, s1.heap.objs.size + 3, s1.heap.objs.size + 4, s1.heap.objs.size, s1.heap.objs.size + 1, s1.heap.objs.size + 2], _, _, H1, rfl, I2, turn_zip3 (apart3 s1.heap.objs.size a b c la lb lc) (Nat.ne_of_lt la) (Nat.ne_of_lt (Nat.lt_succ_of_lt lb)) (Nat.ne_of_lt (Nat.lt_succ_of_lt (Nat.lt_succ_of_lt lc))), ⟨hz, hTI, ⟨_, _, _, hTO⟩, ⟨_, g1, rfl, rfl⟩, ⟨_, g2, rfl, rfl⟩, ⟨_, g3, rfl, rfl⟩⟩, fun d hd => ?_, q⟩
        have e' : d = s1.heap.objs.size + 5 ∨ d = s1.heap.objs.size + 3 ∨ d = s1.heap.objs.size + 4 ∨ d = s1.heap.objs.size ∨ d = s1.heap.objs.size + 1 ∨ d = s1.heap.objs.size + 2 := by simpa using hd
        have hle : s1.heap.objs.size ≤ d := by
          rcases e' with z | z | z | z | z | z
          · rw [z]; exact Nat.le_add_right _ _
          · rw [z]; exact Nat.le_add_right _ _
          · rw [z]; exact Nat.le_add_right _ _
          · rw [z]; exact Nat.le_refl _
          · rw [z]; exact Nat.le_add_right _ _
          · rw [z]; exact Nat.le_add_right _ _
        exact I1.fpOk hle (I1.hok.fresh hle)
end EvT

/-! Ev1: how plain data lies in the heap; the store; what a run may change. -/
namespace Ev
open PySem PySem.Spec PyProof.Rows L2

/-- where the lists of one's own lie; what else is set aside -/
structure Rz where
  cs : List (Option Addr)
  rs : List Addr
def Rz.has (z : Rz) (b : Addr) : Prop := some b ∈ z.cs ∨ b ∈ z.rs
open Classical in
/-- what stays for good -/
noncomputable def Im (z : Rz) (H : Hp) : Hp := fun b => if z.has b then none else H b
theorem Im.out {z : Rz} {H : Hp} {b : Addr} {o : HO} (h : Im z H b = some o) : H b = some o ∧ ¬ z.has b := by
  unfold Im at h
  by_cases c : z.has b
  · rw [if_pos c] at h; cases h
  · rw [if_neg c] at h; exact ⟨h, c⟩
theorem Im.mk {z : Rz} {H : Hp} {b : Addr} {o : HO} (h : H b = some o) (c : ¬ z.has b) : Im z H b = some o := by
  unfold Im
  rw [if_neg c]
  exact h
def Le (H H' : Hp) : Prop := ∀ b o, H b = some o → H' b = some o
theorem Im.le {z : Rz} {H : Hp} : Le (Im z H) H := fun _ _ h => (Im.out h).1
theorem Le.rd {H H' : Hp} (l : Le H H') {a : Addr} {u : HO} (h : Rd H a u) : Rd H' a u := by
  rcases h with h | ⟨o, h⟩
  · exact .inl (l _ _ h)
  · exact .inr ⟨o, l _ _ h⟩
theorem Le.sqL {K : PySem.W.Frag} {H H' : Hp} (l : Le H H') {a : Addr} {xs : List V} (h : SqL K H a xs) : SqL K H' a xs := by
  rcases h with h | h
  · exact .inl (l.rd h)
  · exact .inr h
theorem Le.sqT {K : PySem.W.Frag} {H H' : Hp} (l : Le H H') {a : Addr} {xs : List V} (h : SqT K H a xs) : SqT K H' a xs := by
  rcases h with h | h
  · exact .inl (l.rd h)
  · exact .inr h
mutual
inductive Rp (K : PySem.W.Frag) (H : Hp) : V → D → Prop
  | non : Rp K H .non .none
  | bl (b : Bool) : Rp K H (.bl b) (.bool b)
  | int (i : Int) : Rp K H (.int i) (.int i)
  | str (x : Str) : Rp K H (.str x) (.str x)
  | lst {a : Addr} {xs : List V} {ds : List D} : H a = some (.lst xs) → RpAll K H xs ds → Rp K H (.ref a) (.list ds)
  | tup {a : Addr} {xs : List V} {ds : List D} : SqT K H a xs → RpAll K H xs ds → Rp K H (.ref a) (.tuple ds)
inductive RpAll (K : PySem.W.Frag) (H : Hp) : List V → List D → Prop
  | nil : RpAll K H [] []
  | cons {v : V} {vs : List V} {d : D} {ds : List D} : Rp K H v d → RpAll K H vs ds → RpAll K H (v :: vs) (d :: ds)
end
section
variable {K : PySem.W.Frag} {H H' : Hp}
mutual
theorem Rp.mono (l : Le H H') : ∀ (d : D) (v : V), Rp K H v d → Rp K H' v d
  | .none, _, h => by cases h; exact .non
  | .bool b, _, h => by cases h; exact .bl b
  | .int i, _, h => by cases h; exact .int i
  | .str x, _, h => by cases h; exact .str x
  | .list ds, _, h => by cases h with | lst a b => exact .lst (l _ _ a) (RpAll.mono l ds _ b)
  | .tuple ds, _, h => by cases h with | tup a b => exact .tup (l.sqT a) (RpAll.mono l ds _ b)
  | .dict _, _, h => by cases h
theorem RpAll.mono (l : Le H H') : ∀ (ds : List D) (vs : List V), RpAll K H vs ds → RpAll K H' vs ds
  | [], _, h => by cases h; exact .nil
  | d :: ds, _, h => by cases h with | cons a b => exact .cons (Rp.mono l d _ a) (RpAll.mono l ds _ b)
end
mutual
theorem Rp.dp : ∀ (d : D) (v : V), Rp K H v d → Dp K H v d
  | .none, _, h => by cases h; exact .non
  | .bool b, _, h => by cases h; exact .bl b
  | .int i, _, h => by cases h; exact .int i
  | .str x, _, h => by cases h; exact .str x
  | .list ds, _, h => by cases h with | lst a b => exact .lst (SqL.of a) (RpAll.dp ds _ b)
  | .tuple ds, _, h => by cases h with | tup a b => exact .tup a (RpAll.dp ds _ b)
  | .dict _, _, h => by cases h
theorem RpAll.dp : ∀ (ds : List D) (vs : List V), RpAll K H vs ds → DpAll K H vs ds
  | [], _, h => by cases h; exact .nil
  | d :: ds, _, h => by cases h with | cons a b => exact .cons (Rp.dp d _ a) (RpAll.dp ds _ b)
end
theorem RpAll.length : ∀ {ds : List D} {vs : List V}, RpAll K H vs ds → vs.length = ds.length
  | [], _, h => by cases h; rfl
  | _ :: _, _, h => by cases h with | cons _ b => simp [RpAll.length b]
theorem RpAll.get : ∀ {ds : List D} {vs : List V} {i : Nat} {d : D}, RpAll K H vs ds → ds[i]? = some d → ∃ v, vs[i]? = some v ∧ Rp K H v d
  | [], _, _, _, _, e => by simp at e
  | d :: ds, _, 0, _, h, e => by
    cases h with | cons a b => simp at e; subst e; exact ⟨_, rfl, a⟩
  | d :: ds, _, i + 1, x, h, e => by
    cases h with
    | cons a b =>
      obtain ⟨v, h1, h2⟩ := RpAll.get (i := i) (d := x) b (by simpa using e)
      exact ⟨v, by simpa using h1, h2⟩
theorem RpAll.get' : ∀ {ds : List D} {vs : List V} {i : Nat} {v : V}, RpAll K H vs ds → vs[i]? = some v → ∃ d, ds[i]? = some d ∧ Rp K H v d
  | [], _, _, _, h, e => by cases h; simp at e
  | d :: ds, _, 0, _, h, e => by
    cases h with | cons a b => simp at e; subst e; exact ⟨_, rfl, a⟩
  | d :: ds, _, i + 1, x, h, e => by
    cases h with
    | cons a b =>
      obtain ⟨v, h1, h2⟩ := RpAll.get' (i := i) (v := x) b (by simpa using e)
      exact ⟨v, by simpa using h1, h2⟩
theorem RpAll.append : ∀ {ds es : List D} {vs ws : List V}, RpAll K H vs ds → RpAll K H ws es → RpAll K H (vs ++ ws) (ds ++ es)
  | [], _, _, _, h, g => by cases h; exact g
  | _ :: _, _, _, _, h, g => by cases h with | cons a b => exact .cons a (RpAll.append b g)
theorem RpAll.take : ∀ {ds : List D} {vs : List V} (n : Nat), RpAll K H vs ds → RpAll K H (vs.take n) (ds.take n)
  | _, _, 0, _ => .nil
  | [], _, _ + 1, h => by cases h; exact .nil
  | _ :: _, _, n + 1, h => by cases h with | cons a b => exact .cons a (RpAll.take n b)
theorem RpAll.drop : ∀ {ds : List D} {vs : List V} (n : Nat), RpAll K H vs ds → RpAll K H (vs.drop n) (ds.drop n)
  | _, _, 0, h => h
  | [], _, _ + 1, h => by cases h; exact .nil
  | _ :: _, _, n + 1, h => by cases h with | cons a b => exact RpAll.drop n b
theorem RpAll.set : ∀ {ds : List D} {vs : List V} {v : V} {d : D} (n : Nat), RpAll K H vs ds → Rp K H v d → RpAll K H (vs.set n v) (ds.set n d)
  | [], _, _, _, _, h, _ => by cases h; exact .nil
  | _ :: _, _, _, _, 0, h, r => by cases h with | cons a b => exact .cons r b
  | _ :: _, _, _, _, n + 1, h, r => by cases h with | cons a b => exact .cons a (RpAll.set n b r)
theorem RpAll.reps {ds : List D} {vs : List V} (h : RpAll K H vs ds) : ∀ n : Nat, RpAll K H (List.replicate n vs).flatten (List.replicate n ds).flatten
  | 0 => .nil
  | n + 1 => by
    rw [List.replicate_succ, List.replicate_succ, List.flatten_cons, List.flatten_cons]
    exact h.append (h.reps n)
theorem RpAll.dropLast {ds : List D} {vs : List V} (h : RpAll K H vs ds) : RpAll K H vs.dropLast ds.dropLast := by
  rw [List.dropLast_eq_take, List.dropLast_eq_take, h.length]
  exact h.take _
theorem RpAll.reverse : ∀ {ds : List D} {vs : List V}, RpAll K H vs ds → RpAll K H vs.reverse ds.reverse
  | [], _, h => by cases h; exact .nil
  | _ :: _, _, h => by
    cases h with
    | cons a b =>
      rw [List.reverse_cons, List.reverse_cons]
      exact b.reverse.append (.cons a .nil)
end

/-- what a value is -/
def RU (K : PySem.W.Frag) (z : Rz) (H : Hp) : U → V → Prop
  | .d x, v => Rp K (Im z H) v x
  | .r i, v => i < z.cs.length ∧ ∀ p, z.cs[i]? = some (some p) → v = .ref p
  | .k xs, v => ∃ a vs, v = .ref a ∧ SqL K (Im z H) a vs ∧ RpAll K (Im z H) vs xs
def RUs (K : PySem.W.Frag) (z : Rz) (H : Hp) : List U → List V → Prop
  | [], vs => vs = []
  | u :: us, vs => ∃ v ws, vs = v :: ws ∧ RU K z H u v ∧ RUs K z H us ws
/-- the store stands -/
structure SO (K : PySem.W.Frag) (z : Rz) (H : Hp) (S : Sto) : Prop where
  ln : S.length = z.cs.length
  nd : ∀ (i j : Nat) (p : Addr), z.cs[i]? = some (some p) → z.cs[j]? = some (some p) → i = j
  tr : ∀ p, z.has p → H p ≠ none
  dj : ∀ (i : Nat) (p : Addr), z.cs[i]? = some (some p) → p ∉ z.rs
  al : ∀ (i : Nat) (xs : List D), S[i]? = some (some xs) → ∃ p vs, z.cs[i]? = some (some p) ∧ H p = some (.lst vs) ∧ RpAll K (Im z H) vs xs
/-- what is known stays known -/
structure Grow (z : Rz) (H : Hp) (z' : Rz) (H' : Hp) : Prop where
  im : Le (Im z H) (Im z' H')
  ln : z.cs.length ≤ z'.cs.length
  cs : ∀ (i : Nat) (p : Addr), i < z.cs.length → z'.cs[i]? = some (some p) → z.cs[i]? = some (some p)
/-- behind a run -/
structure Ext (z : Rz) (H : Hp) (z' : Rz) (H' : Hp) : Prop where
  im : Le (Im z H) (Im z' H')
  rs : z'.rs = z.rs
  kp : ∀ b ∈ z.rs, ∀ o, H b = some o → H' b = some o
  ln : z.cs.length ≤ z'.cs.length
  cs : ∀ (i : Nat) (p : Addr), i < z.cs.length → z'.cs[i]? = some (some p) → z.cs[i]? = some (some p)
  tr : ∀ b, H b ≠ none → H' b ≠ none
section
variable {K : PySem.W.Frag} {z z' z2 : Rz} {H H' H2 : Hp} {S : Sto}
theorem Ext.refl : Ext z H z H := ⟨fun _ _ h => h, rfl, fun _ _ _ h => h, Nat.le_refl _, fun _ _ _ h => h, fun _ h => h⟩
theorem Ext.trans (a : Ext z H z' H') (b : Ext z' H' z2 H2) : Ext z H z2 H2 :=
  ⟨fun c o h => b.im c o (a.im c o h), b.rs.trans a.rs, fun c hc o h => b.kp c (by rw [a.rs]; exact hc) o (a.kp c hc o h), Nat.le_trans a.ln b.ln,
    fun i p hi h => a.cs i p hi (b.cs i p (Nat.lt_of_lt_of_le hi a.ln) h), fun c h => b.tr c (a.tr c h)⟩
theorem Ext.grow (e : Ext z H z' H') : Grow z H z' H' := ⟨e.im, e.ln, e.cs⟩
theorem Grow.trans (a : Grow z H z' H') (b : Grow z' H' z2 H2) : Grow z H z2 H2 :=
  ⟨fun c o h => b.im c o (a.im c o h), Nat.le_trans a.ln b.ln, fun i p hi h => a.cs i p hi (b.cs i p (Nat.lt_of_lt_of_le hi a.ln) h)⟩
theorem RU.grow (e : Grow z H z' H') {u : U} {v : V} (h : RU K z H u v) : RU K z' H' u v := by
  cases u with
  | d x => exact Rp.mono e.im x v h
  | r i => exact ⟨Nat.lt_of_lt_of_le h.1 e.ln, fun p q => h.2 p (e.cs i p h.1 q)⟩
  | k xs =>
    obtain ⟨a, vs, rfl, h1, h2⟩ := h
    exact ⟨a, vs, rfl, e.im.sqL h1, RpAll.mono e.im _ _ h2⟩
theorem RU.mono (e : Ext z H z' H') {u : U} {v : V} (h : RU K z H u v) : RU K z' H' u v := by
  cases u with
  | d x => exact Rp.mono e.im x v h
  | r i => exact ⟨Nat.lt_of_lt_of_le h.1 e.ln, fun p q => h.2 p (e.cs i p h.1 q)⟩
  | k xs =>
    obtain ⟨a, vs, rfl, h1, h2⟩ := h
    exact ⟨a, vs, rfl, e.im.sqL h1, RpAll.mono e.im _ _ h2⟩
theorem RUs.mono (e : Ext z H z' H') : ∀ {us : List U} {vs : List V}, RUs K z H us vs → RUs K z' H' us vs
  | [], _, h => h
  | _ :: _, _, h => by
    obtain ⟨v, ws, rfl, h1, h2⟩ := h
    exact ⟨v, ws, rfl, h1.mono e, RUs.mono e h2⟩
theorem RUs.length : ∀ {us : List U} {vs : List V}, RUs K z H us vs → us.length = vs.length
  | [], _, h => by cases h; rfl
  | _ :: _, _, h => by
    obtain ⟨v, ws, rfl, h1, h2⟩ := h
    simp [RUs.length h2]
theorem mem_get {cs : List (Option Addr)} {p : Addr} (h : some p ∈ cs) : ∃ i : Nat, cs[i]? = some (some p) := by
  obtain ⟨i, hi, e⟩ := List.getElem_of_mem h
  exact ⟨i, by rw [List.getElem?_eq_getElem hi, e]⟩
theorem get_mem {cs : List (Option Addr)} {p : Addr} {i : Nat} (h : cs[i]? = some (some p)) : some p ∈ cs := List.mem_of_getElem? h
/-- a new object -/
theorem Ext.new {p : Addr} {o : HO} (hp : H p = none) : Ext z H z (upd H p o) where
  im := fun b o' h => by
    obtain ⟨h1, h2⟩ := Im.out h
    exact Im.mk (by rw [upd_ne (ne_of_none h1 hp)]; exact h1) h2
  rs := rfl
  kp := fun b _ o' h => by rw [upd_ne (ne_of_none h hp)]; exact h
  ln := Nat.le_refl _
  cs := fun _ _ _ h => h
  tr := fun b h => by
    cases e : H b with
    | none => exact absurd e h
    | some o' => rw [upd_ne (ne_of_none e hp), e]; exact Option.some_ne_none _
theorem SO.nohas (so : SO K z H S) {p : Addr} (hp : H p = none) : ¬ z.has p := fun h => so.tr p h hp
theorem SO.new (so : SO K z H S) {p : Addr} {o : HO} (hp : H p = none) : SO K z (upd H p o) S where
  ln := so.ln
  nd := so.nd
  tr := fun b h => (Ext.new (z := z) (o := o) hp).tr b (so.tr b h)
  dj := so.dj
  al := fun i xs h => by
    obtain ⟨q, vs, h1, h2, h3⟩ := so.al i xs h
    exact ⟨q, vs, h1, by rw [upd_ne (ne_of_none h2 hp)]; exact h2, RpAll.mono (Ext.new (z := z) hp).im _ _ h3⟩
/-- .. a list of one's own -/
theorem Ext.cell {p : Addr} {o : HO} (hp : H p = none) : Ext z H { z with cs := z.cs ++ [some p] } (upd H p o) where
  im := fun b o' h => by
    obtain ⟨h1, h2⟩ := Im.out h
    have ne := ne_of_none h1 hp
    refine Im.mk (by rw [upd_ne ne]; exact h1) fun c => ?_
    rcases c with c | c
    · rcases List.mem_append.mp c with c | c
      · exact h2 (.inl c)
      · exact ne (by simpa using c)
    · exact h2 (.inr c)
  rs := rfl
  kp := fun b _ o' h => by rw [upd_ne (ne_of_none h hp)]; exact h
  ln := by simp
  cs := fun i p hi h => by rw [List.getElem?_append_left hi] at h; exact h
  tr := (Ext.new (z := z) hp).tr
theorem SO.cell (so : SO K z H S) {p : Addr} {vs : List V} {ds : List D} (hp : H p = none) (ra : RpAll K (Im z H) vs ds) :
    SO K { z with cs := z.cs ++ [some p] } (upd H p (.lst vs)) (S ++ [some ds]) where
  ln := by simp [so.ln]
  nd := fun i j q h1 h2 => by
    have hn := so.nohas hp
    have key : ∀ k : Nat, (z.cs ++ [some p])[k]? = some (some q) → (k < z.cs.length ∧ z.cs[k]? = some (some q)) ∨ (k = z.cs.length ∧ q = p) := fun k h => by
      by_cases hk : k < z.cs.length
      · rw [List.getElem?_append_left hk] at h; exact .inl ⟨hk, h⟩
      · rw [List.getElem?_append_right (by omega)] at h
        have hk2 : k - z.cs.length = 0 := by
          cases e : k - z.cs.length with
          | zero => rfl
          | succ n => rw [e] at h; simp at h
        rw [hk2] at h
        exact .inr ⟨by omega, by simpa using h.symm⟩
    rcases key i h1 with ⟨_, a⟩ | ⟨a, a'⟩
    · rcases key j h2 with ⟨_, b⟩ | ⟨b, b'⟩
      · exact so.nd i j q a b
      · subst b'; exact absurd (.inl (get_mem a)) hn
    · rcases key j h2 with ⟨_, b⟩ | ⟨b, b'⟩
      · subst a'; exact absurd (.inl (get_mem b)) hn
      · omega
  tr := fun q h => by
    rcases h with h | h
    · rcases List.mem_append.mp h with h | h
      · exact (Ext.new (z := z) hp).tr q (so.tr q (.inl h))
      · have e : q = p := by simpa using h
        subst e; rw [upd_same]; exact Option.some_ne_none _
    · exact (Ext.new (z := z) hp).tr q (so.tr q (.inr h))
  dj := fun i q h => by
    rcases List.mem_append.mp (get_mem h) with h | h
    · obtain ⟨j, hj⟩ := mem_get h
      exact so.dj j q hj
    · have e : q = p := by simpa using h
      subst e; exact fun c => so.nohas hp (.inr c)
  al := fun i xs h => by
    have lc : Le (Im z H) (Im { z with cs := z.cs ++ [some p] } (upd H p (.lst vs))) := (Ext.cell (z := z) hp).im
    by_cases hi : i < S.length
    · rw [List.getElem?_append_left hi] at h
      obtain ⟨q, ws, h1, h2, h3⟩ := so.al i xs h
      refine ⟨q, ws, ?_, by rw [upd_ne (ne_of_none h2 hp)]; exact h2, RpAll.mono lc _ _ h3⟩
      show (z.cs ++ [some p])[i]? = _
      rw [List.getElem?_append_left (by rw [← so.ln]; exact hi)]
      exact h1
    · rw [List.getElem?_append_right (by omega)] at h
      have hk : i - S.length = 0 := by
        cases e : i - S.length with
        | zero => rfl
        | succ n => rw [e] at h; simp at h
      rw [hk] at h
      have e : xs = ds := by simpa using h.symm
      subst e
      have ei : i = z.cs.length := by have := so.ln; omega
      refine ⟨p, vs, ?_, upd_same, RpAll.mono lc _ _ ra⟩
      show (z.cs ++ [some p])[i]? = _
      rw [ei, List.getElem?_append_right (Nat.le_refl _)]
      simp
/-- a new list, frozen or of one's own -/
theorem new_lst {m : Bool} {ds : List D} {u : U} {S' : Sto} {p : Addr} {vs : List V} {Q : VK} (e : mkL m ds S = .ok u S') (so : SO K z H S) (hp : H p = none) (ra : RpAll K (Im z H) vs ds)
    (q : ∀ z' H' v, Ext z H z' H' → SO K z' H' S' → RU K z' H' u v → Q v H') : Q (.ref p) (upd H p (.lst vs)) := by
  unfold mkL at e
  cases m with
  | true =>
    rw [if_pos rfl] at e
    cases e
    refine q { z with cs := z.cs ++ [some p] } _ _ (Ext.cell hp) (so.cell hp ra) ⟨by simp [so.ln], fun q' h => ?_⟩
    have h' : (z.cs ++ [some p])[S.length]? = some (some q') := h
    rw [so.ln, List.getElem?_append_right (Nat.le_refl _)] at h'
    have e : p = q' := by simpa using h'
    rw [e]
  | false =>
    rw [if_neg (by decide)] at e
    cases e
    exact q z _ _ (Ext.new hp) (so.new hp) (.lst (Im.mk upd_same (so.nohas hp)) (RpAll.mono (Ext.new (z := z) hp).im _ _ ra))
/-- a list of one's own is written -/
theorem Ext.write {i : Nat} {p : Addr} {o : HO} (hi : z.cs[i]? = some (some p)) (hd : p ∉ z.rs) : Ext z H z (upd H p o) where
  im := fun b o' h => by
    obtain ⟨h1, h2⟩ := Im.out h
    have ne : b ≠ p := fun e => h2 (.inl (by rw [e]; exact get_mem hi))
    exact Im.mk (by rw [upd_ne ne]; exact h1) h2
  rs := rfl
  kp := fun b hb o' h => by
    have ne : b ≠ p := fun e => hd (by rw [← e]; exact hb)
    rw [upd_ne ne]; exact h
  ln := Nat.le_refl _
  cs := fun _ _ _ h => h
  tr := fun b h => by
    by_cases e : b = p
    · subst e; rw [upd_same]; exact Option.some_ne_none _
    · rw [upd_ne e]; exact h
theorem SO.write (so : SO K z H S) {i : Nat} {p : Addr} {vs : List V} {ds : List D} (hi : z.cs[i]? = some (some p)) (ra : RpAll K (Im z H) vs ds) : SO K z (upd H p (.lst vs)) (S.set i (some ds)) where
  ln := by simp [so.ln]
  nd := so.nd
  tr := fun b h => (Ext.write (H := H) (o := .lst vs) hi (so.dj i p hi)).tr b (so.tr b h)
  dj := so.dj
  al := fun j xs h => by
    have lc : Le (Im z H) (Im z (upd H p (.lst vs))) := (Ext.write (H := H) (o := .lst vs) hi (so.dj i p hi)).im
    by_cases e : i = j
    · subst e
      have hl : i < S.length := by
        rw [so.ln]
        exact (List.getElem?_eq_some_iff.mp hi).1
      rw [List.getElem?_set_self hl] at h
      cases h
      exact ⟨p, vs, hi, upd_same, RpAll.mono lc _ _ ra⟩
    · rw [List.getElem?_set_ne e] at h
      obtain ⟨q, ws, h1, h2, h3⟩ := so.al j xs h
      have ne : q ≠ p := fun c => e (so.nd i j q (c ▸ hi) h1)
      exact ⟨q, ws, h1, by rw [upd_ne ne]; exact h2, RpAll.mono lc _ _ h3⟩
/-- a list of one's own is given up -/
theorem Ext.drop {i : Nat} : Ext z H { z with cs := z.cs.set i none } H where
  im := fun b o' h => by
    obtain ⟨h1, h2⟩ := Im.out h
    refine Im.mk h1 fun c => ?_
    rcases c with c | c
    · obtain ⟨j, hj⟩ := mem_get c
      refine h2 (.inl ?_)
      by_cases e : i = j
      · subst e
        by_cases hl : i < z.cs.length
        · have hj' : (z.cs.set i none)[i]? = some (some b) := hj
          rw [List.getElem?_set_self hl] at hj'; cases hj'
        · have hj' : (z.cs.set i none)[i]? = some (some b) := hj
          rw [List.getElem?_eq_none (by simp; omega)] at hj'; cases hj'
      · have hj' : (z.cs.set i none)[j]? = some (some b) := hj
        rw [List.getElem?_set_ne e] at hj'
        exact get_mem hj'
    · exact h2 (.inr c)
  rs := rfl
  kp := fun _ _ _ h => h
  ln := by simp
  cs := fun j p hj h => by
    have h' : (z.cs.set i none)[j]? = some (some p) := h
    by_cases e : i = j
    · subst e; rw [List.getElem?_set_self hj] at h'; cases h'
    · rw [List.getElem?_set_ne e] at h'; exact h'
  tr := fun _ h => h
theorem drop_get {i j : Nat} {p : Addr} (h : (z.cs.set i none)[j]? = some (some p)) : i ≠ j ∧ z.cs[j]? = some (some p) := by
  by_cases e : i = j
  · subst e
    by_cases hl : i < z.cs.length
    · rw [List.getElem?_set_self hl] at h; cases h
    · rw [List.getElem?_eq_none (by simp; omega)] at h; cases h
  · rw [List.getElem?_set_ne e] at h; exact ⟨e, h⟩
theorem SO.drop (so : SO K z H S) {i : Nat} : SO K { z with cs := z.cs.set i none } H (S.set i none) where
  ln := by simp [so.ln]
  nd := fun a b p h1 h2 => so.nd a b p (drop_get h1).2 (drop_get h2).2
  tr := fun b h => by
    rcases h with h | h
    · obtain ⟨j, hj⟩ := mem_get h
      exact so.tr b (.inl (get_mem (drop_get hj).2))
    · exact so.tr b (.inr h)
  dj := fun j p h => so.dj j p (drop_get h).2
  al := fun j xs h => by
    by_cases e : i = j
    · subst e
      by_cases hl : i < S.length
      · rw [List.getElem?_set_self hl] at h; cases h
      · rw [List.getElem?_eq_none (by simp; omega)] at h; cases h
    · rw [List.getElem?_set_ne e] at h
      obtain ⟨q, ws, h1, h2, h3⟩ := so.al j xs h
      refine ⟨q, ws, ?_, h2, RpAll.mono (Ext.drop (z := z) (H := H) (i := i)).im _ _ h3⟩
      show (z.cs.set i none)[j]? = _
      rw [List.getElem?_set_ne e]; exact h1
theorem frz_ok {u : U} {d : D} {S' : Sto} {v : V} (e : frz u S = .ok d S') (so : SO K z H S) (r : RU K z H u v) : ∃ z', Ext z H z' H ∧ SO K z' H S' ∧ Rp K (Im z' H) v d := by
  cases u with
  | d x => cases e; exact ⟨z, Ext.refl, so, r⟩
  | k xs => cases e
  | r i =>
    unfold frz at e
    cases q : S[i]? with
    | none => simp [q] at e
    | some c =>
      cases c with
      | none => simp [q] at e
      | some xs =>
        simp only [q, Res.ok.injEq] at e
        obtain ⟨rfl, rfl⟩ := e
        obtain ⟨p, vs, h1, h2, h3⟩ := so.al i xs q
        refine ⟨_, Ext.drop (i := i), so.drop, ?_⟩
        rw [r.2 p h1]
        refine .lst (Im.mk h2 fun c => ?_) (RpAll.mono (Ext.drop (z := z) (i := i)).im _ _ h3)
        rcases c with c | c
        · obtain ⟨j, hj⟩ := mem_get c
          obtain ⟨n1, n2⟩ := drop_get hj
          exact n1 (so.nd i j p h1 n2)
        · exact so.dj i p h1 c
theorem bind_ok {α β : Type} {r : Res α} {f : α → Sto → Res β} {b : β} {S' : Sto} (h : r.bind f = .ok b S') : ∃ a S1, r = .ok a S1 ∧ f a S1 = .ok b S' := by
  cases r with
  | no => cases h
  | ok a S1 => exact ⟨a, S1, rfl, h⟩
theorem frzs_ok : ∀ {us : List U} {ds : List D} {S S' : Sto} {vs : List V} {z : Rz}, frzs us S = .ok ds S' → SO K z H S → RUs K z H us vs → ∃ z', Ext z H z' H ∧ SO K z' H S' ∧ RpAll K (Im z' H) vs ds
  | [], _, _, _, _, z, e, so, r => by cases e; cases r; exact ⟨z, Ext.refl, so, .nil⟩
  | u :: us, _, _, _, _, z, e, so, r => by
    obtain ⟨v, ws, rfl, r1, r2⟩ := r
    obtain ⟨d, S1, e1, e⟩ := bind_ok e
    obtain ⟨ds, S2, e2, e⟩ := bind_ok e
    cases e
    obtain ⟨z1, x1, so1, p1⟩ := frz_ok e1 so r1
    obtain ⟨z2, x2, so2, p2⟩ := frzs_ok e2 so1 (r2.mono x1)
    exact ⟨z2, x1.trans x2, so2, .cons (Rp.mono x2.im _ _ p1) p2⟩
/-- the data of a value, over the whole heap -/
theorem der_ok {u : U} {d : D} {v : V} (e : der S u = some d) (so : SO K z H S) (r : RU K z H u v) : Rp K H v d := by
  cases u with
  | d x => cases e; exact Rp.mono Im.le _ v r
  | k xs => cases e
  | r i =>
    unfold der at e
    cases q : S[i]? with
    | none => simp [q] at e
    | some c =>
      cases c with
      | none => simp [q] at e
      | some xs =>
        simp only [q, Option.some.injEq] at e
        subst e
        obtain ⟨p, vs, h1, h2, h3⟩ := so.al i xs q
        rw [r.2 p h1]
        exact .lst h2 (RpAll.mono Im.le _ _ h3)
/-- its items are for good -/
theorem der_lst {u : U} {xs : List D} {v : V} (e : der S u = some (.list xs)) (so : SO K z H S) (r : RU K z H u v) : ∃ p vs, v = .ref p ∧ H p = some (.lst vs) ∧ RpAll K (Im z H) vs xs := by
  cases u with
  | d x =>
    cases e
    cases r with
    | lst a b => exact ⟨_, _, rfl, Im.le _ _ a, b⟩
  | k xs => cases e
  | r i =>
    unfold der at e
    cases q : S[i]? with
    | none => simp [q] at e
    | some c =>
      cases c with
      | none => simp [q] at e
      | some ys =>
        simp only [q, Option.some.injEq, PyData.list.injEq] at e
        subst e
        obtain ⟨p, vs, h1, h2, h3⟩ := so.al i ys q
        exact ⟨p, vs, r.2 p h1, h2, h3⟩
theorem der_tup {u : U} {xs : List D} {v : V} (e : der S u = some (.tuple xs)) (so : SO K z H S) (r : RU K z H u v) : ∃ p vs, v = .ref p ∧ SqT K (Im z H) p vs ∧ RpAll K (Im z H) vs xs := by
  cases u with
  | d x =>
    cases e
    cases r with
    | tup a b => exact ⟨_, _, rfl, a, b⟩
  | k xs => cases e
  | r i =>
    unfold der at e
    cases q : S[i]? with
    | none => simp [q] at e
    | some c =>
      cases c with
      | none => simp [q] at e
      | some ys => simp [q] at e
theorem der_int {u : U} {i : Int} {v : V} (e : der S u = some (.int i)) (r : RU K z H u v) : v = .int i := by
  cases u with
  | d x =>
    cases e
    cases r with
    | int _ => rfl
  | k xs => cases e
  | r j =>
    unfold der at e
    cases q : S[j]? with
    | none => simp [q] at e
    | some c =>
      cases c with
      | none => simp [q] at e
      | some ys => simp [q] at e
/-- a new tuple -/
theorem new_tup {ds : List D} {p : Addr} {vs : List V} {Q : VK} (so : SO K z H S) (hp : H p = none) (ra : RpAll K (Im z H) vs ds)
    (q : ∀ z' H' v, Ext z H z' H' → SO K z' H' S → RU K z' H' (.d (.tuple ds)) v → Q v H') : Q (.ref p) (upd H p (.tup vs)) :=
  q z _ _ (Ext.new hp) (so.new hp) (.tup (SqT.of (Im.mk upd_same (so.nohas hp))) (RpAll.mono (Ext.new (z := z) hp).im _ _ ra))
end
end Ev

/-! Ev2: the operations by values. -/
namespace Ev
open PySem PySem.Spec PyProof.Rows L2

/-- what a context must have -/
structure Gd (X : Cx) : Prop where
  calm : X.calm = true
  hu : X.A.units + 150 < cLine
  grd : X.A.guards = some []
/-- what is wanted behind an evaluation that gives u and the store S' -/
abbrev Aft (K : PySem.W.Frag) (z : Rz) (H : Hp) (S' : Sto) (u : U) (Q : VK) : Prop := ∀ z' H' v, Ext z H z' H' → SO K z' H' S' → RU K z' H' u v → Q v H'
def wO (X : Cx) (f : Value → Value → Sem Value) (x y : V) (H : Hp) (Q : VK) : Prop :=
  ∀ (pins : List (Addr × Obj)) (s : Shared) (σ : L2.St) (v u : Value), Inv X pins σ H s → RelV x v → RelV y u → wpAny (model X.prog X.w) X.A (f v u) (EP X pins σ Q) X.xe s
def wC (X : Cx) (f : Value) (xs : List V) (H : Hp) (Q : VK) : Prop :=
  ∀ (pins : List (Addr × Obj)) (s : Shared) (σ : L2.St) (us : List Value), Inv X pins σ H s → Vals xs us → wpAny (model X.prog X.w) X.A (PySem.call f us) (EP X pins σ Q) X.xe s
theorem use_op {X : Cx} {f : Value → Value → Sem Value} {r : R2} (h : OpR X f r) {x y : V} {H : Hp} {Q : VK} (q : r x y H Q) : wO X f x y H Q :=
  fun pins s σ v u I rv ru => h pins s σ H x y v u Q I rv ru q
theorem use_call {X : Cx} {f : Value} {r : List V → Hp → VK → Prop} (h : CallR X f r) {xs : List V} {H : Hp} {Q : VK} (q : r xs H Q) : wC X f xs H Q :=
  fun pins s σ us I ru => h pins s σ H xs us Q I ru q
theorem op_w {X : Cx} {f : Value → Value → Sem Value} : OpR X f (fun x y H Q => wO X f x y H Q) := fun pins s σ H x y v u Q I rv ru h => h pins s σ v u I rv ru
theorem call_w {X : Cx} {f : Value} : CallR X f (fun xs H Q => wC X f xs H Q) := fun pins s σ H xs us Q I ru h => h pins s σ us I ru

section
variable {X : Cx} {z : Rz} {H : Hp} {S S' : Sto} {u : U} {Q : VK}
theorem aft0 {x : D} {v : V} (q : Aft X.K z H S (.d x) Q) (so : SO X.K z H S) (r : Rp X.K (Im z H) v x) : Q v H := q z H v Ext.refl so r
theorem mulOk_ok {i j : Int} (h : mulOk i j = true) : IntMulOk i j := by
  unfold mulOk at h
  unfold IntMulOk
  intro c
  rw [c] at h
  cases h
theorem floor_any {i j : Int} : i.fdiv j = i.fdiv j := rfl
theorem op_fdivA : OpR X (binaryOp .FloorDiv) (rI (fun _ j => j ≠ 0 ∧ j.natAbs.log2 < 9000) fun i j => .int (i.fdiv j)) := opI fun _ _ _ _ _ _ _ hc q => floordiv_int hc.1 q (.inl (PyProof.noPylong_of_log2 hc.2))
theorem op_mulA : OpR X (binaryOp .Mult) (rI (fun i j => mulOk i j = true) fun i j => .int (i * j)) := opI fun _ _ _ _ _ _ _ hc q => mul_int q (mulOk_ok hc)
theorem bin_int {op : Operator} {i j : Int} {c : D} (e : binD op (.int i) (.int j) = some c) (so : SO X.K z H S) (q : Aft X.K z H S (.d c) Q) : wO X (binaryOp op) (.int i) (.int j) H Q := by
  cases op with
  | Add => cases e; exact use_op op_add ⟨_, _, rfl, rfl, aft0 q so (.int _)⟩
  | Sub => cases e; exact use_op op_sub ⟨_, _, rfl, rfl, aft0 q so (.int _)⟩
  | Mult =>
    simp only [binD] at e
    split at e
    · cases e; rename_i hc; exact use_op op_mulA ⟨_, _, rfl, rfl, hc, aft0 q so (.int _)⟩
    · cases e
  | FloorDiv =>
    simp only [binD] at e
    split at e
    · cases e; rename_i hc; exact use_op op_fdivA ⟨_, _, rfl, rfl, hc, aft0 q so (.int _)⟩
    · cases e
  | Mod =>
    simp only [binD] at e
    split at e
    · cases e; rename_i hc; exact use_op op_modN ⟨_, _, rfl, rfl, hc, aft0 q so (.int _)⟩
    · cases e
  | Pow =>
    simp only [binD] at e
    split at e
    · cases e; rename_i hc; exact use_op op_pow ⟨_, _, rfl, rfl, hc, aft0 q so (.int _)⟩
    · cases e
  | LShift =>
    simp only [binD] at e
    split at e
    · cases e; rename_i hc; exact use_op op_shl ⟨_, _, rfl, rfl, hc, aft0 q so (.int _)⟩
    · cases e
  | _ => cases e
theorem bin_ok {m : Bool} {op : Operator} {x y : U} {vx vy : V} (e : binU m op x y S = .ok u S') (so : SO X.K z H S) (rx : RU X.K z H x vx) (ry : RU X.K z H y vy) (q : Aft X.K z H S' u Q) :
    wO X (binaryOp op) vx vy H Q := by
  unfold binU at e
  cases ha : der S x with
  | none => simp [ha] at e
  | some a =>
    cases hb : der S y with
    | none => simp [ha, hb] at e
    | some b =>
      simp only [ha, hb] at e
      cases hl : binL op a b with
      | some ds =>
        simp only [hl] at e
        unfold binL at hl
        split at hl
        · split at hl
          · rename_i hz
            cases hl
            obtain ⟨p, vs, rfl, hp, ra⟩ := der_lst ha so rx
            obtain ⟨p2, ws, rfl, hp2, rb⟩ := der_lst hb so ry
            exact use_op op_cat ⟨p, p2, vs, ws, rfl, rfl, hp, hp2, by rw [ra.length, rb.length]; exact hz, fun l hn => new_lst e so hn (ra.append rb) q⟩
          · cases hl
        · split at hl
          · rename_i hz
            cases hl
            obtain ⟨p, vs, rfl, hp, ra⟩ := der_lst ha so rx
            obtain rfl := der_int hb ry
            exact use_op op_rep ⟨p, _, vs, rfl, rfl, hp, hz.1, hz.2.1, by rw [ra.length]; exact hz.2.2, fun l hn => new_lst e so hn (ra.reps _) q⟩
          · cases hl
        · cases hl
      | none =>
        simp only [hl] at e
        cases hd : binD op a b with
        | none => simp [hd] at e
        | some c =>
          simp only [hd, Res.ok.injEq] at e
          obtain ⟨rfl, rfl⟩ := e
          have rxp := der_ok ha so rx
          have ryp := der_ok hb so ry
          cases a with
          | int i =>
            cases b with
            | int j => cases rxp; cases ryp; exact bin_int hd so q
            | _ => cases op <;> cases hd
          | str s =>
            cases b with
            | str t =>
              cases op with
              | Add =>
                simp only [binD] at hd
                split at hd
                · rename_i hz
                  cases hd
                  cases rxp; cases ryp
                  exact use_op op_add_str ⟨_, _, rfl, rfl, hz, aft0 q so (.str _)⟩
                · cases hd
              | _ => cases hd
            | _ => cases op <;> cases hd
          | tuple xs =>
            cases b with
            | tuple ys =>
              cases op with
              | Add =>
                simp only [binD] at hd
                split at hd
                · rename_i hz
                  cases hd
                  obtain ⟨p, vs, rfl, hp, ra⟩ := der_tup ha so rx
                  obtain ⟨p2, ws, rfl, hp2, rb⟩ := der_tup hb so ry
                  refine use_op op_catT ⟨p, p2, vs, ws, rfl, rfl, Im.le.sqT hp, Im.le.sqT hp2, fun c => ?_, by rw [ra.length, rb.length]; exact hz.2, fun c => ?_, fun c l hn => new_tup so hn (ra.append rb) q⟩
                  · subst c; exact hz.1 (List.length_eq_zero_iff.mp (by rw [← ra.length]; rfl))
                  · subst c
                    have e0 : ys = [] := List.length_eq_zero_iff.mp (by rw [← rb.length]; rfl)
                    subst e0
                    rw [List.append_nil] at q
                    exact aft0 q so (.tup hp ra)
                · cases hd
              | _ => cases hd
            | _ => cases op <;> cases hd
          | _ => cases op <;> cases hd

/-! ### comparing -/
theorem isNone_iff {v : V} {d : D} (r : Rp X.K H v d) : decide (v = V.non) = isN d := by
  cases r <;> simp [isN]
theorem op_inT (hu : X.A.units + 65 < cLine) : OpR X (compareOp .In) (fun x y H Q => ∃ d ds, Dp X.K H x d ∧ Dp X.K H y (.tuple ds) ∧ SeqAt.shaped d = true ∧ SeqAt.shaped (.tuple ds) = true ∧ Q (.bl (ds.any fun z => PyData.eqv z d)) H) := by
  intro pins s σ H x y v u Q I rx ry h
  obtain ⟨d, ds, k1, k2, k3, k4, q⟩ := h
  obtain ⟨_, r1⟩ := Dp.reads I d x v k1 rx
  obtain ⟨_, r2⟩ := Dp.reads I (.tuple ds) y u k2 ry
  exact SeqAt.in_tuple_reads r2 r1 (SeqAt.canLay_of_shaped k4) (SeqAt.canLay_of_shaped k3) (room_in_shaped k3 hu) ⟨.bl _, H, I, rfl, q⟩
theorem op_niT (hu : X.A.units + 65 < cLine) : OpR X (compareOp .NotIn) (fun x y H Q => ∃ d ds, Dp X.K H x d ∧ Dp X.K H y (.tuple ds) ∧ SeqAt.shaped d = true ∧ SeqAt.shaped (.tuple ds) = true ∧ Q (.bl (!ds.any fun z => PyData.eqv z d)) H) := by
  intro pins s σ H x y v u Q I rx ry h
  obtain ⟨d, ds, k1, k2, k3, k4, q⟩ := h
  obtain ⟨_, r1⟩ := Dp.reads I d x v k1 rx
  obtain ⟨_, r2⟩ := Dp.reads I (.tuple ds) y u k2 ry
  exact SeqAt.notIn_tuple_reads r2 r1 (SeqAt.canLay_of_shaped k4) (SeqAt.canLay_of_shaped k3) (room_in_shaped k3 hu) ⟨.bl _, H, I, rfl, q⟩
theorem op_ltD (hu : X.A.units + 65 < cLine) : OpR X (compareOp .Lt) (fun x y H Q => ∃ a b, Dp X.K H x a ∧ Dp X.K H y b ∧ PySem.W.alike a b = true ∧ a ≠ .none ∧ a.depth ≤ 50 ∧ Q (.bl (PySem.W.dataLt a b)) H) := by
  intro pins s σ H x y v u Q I rx ry h
  obtain ⟨a, b, k1, k2, k3, k4, k5, q⟩ := h
  obtain ⟨_, r1⟩ := Dp.reads I a x v k1 rx
  obtain ⟨_, r2⟩ := Dp.reads I b y u k2 ry
  exact PySem.W.lt_data r1 r2 k3 k4 (by have := Nat.min_le_left a.depth b.depth; omega) ⟨.bl _, H, I, rfl, q⟩
theorem cmp_ok (G : Gd X) {op : CmpOp} {x y : U} {vx vy : V} {t : Bool} (e : cmpU op x y S = some t) (so : SO X.K z H S) (rx : RU X.K z H x vx) (ry : RU X.K z H y vy) (q : Q (.bl t) H) :
    wO X (compareOp op) vx vy H Q := by
  have hu := G.hu
  unfold cmpU at e
  cases ha : der S x with
  | none => simp [ha] at e
  | some a =>
    cases hb : der S y with
    | none => simp [ha, hb] at e
    | some b =>
      simp only [ha, hb] at e
      have rxp := der_ok ha so rx
      have ryp := der_ok hb so ry
      have dx := Rp.dp _ _ rxp
      have dy := Rp.dp _ _ ryp
      unfold cmpD at e
      split at e
      · cases e; cases rxp; cases ryp; exact use_op op_eq ⟨rfl, by rw [show ∀ a b : Str, decide (V.str a = V.str b) = decide (a = b) from fun a b => by rw [Bool.eq_iff_iff]; simp]; exact q⟩
      · cases e; cases rxp; cases ryp; exact use_op op_ne ⟨rfl, by rw [show ∀ a b : Str, decide (V.str a = V.str b) = decide (a = b) from fun a b => by rw [Bool.eq_iff_iff]; simp]; exact q⟩
      · split at e
        · rename_i hz
          cases e
          exact use_op (op_eqD (by omega)) ⟨_, _, dx, dy, hz.1, hz.2, q⟩
        · cases e
      · split at e
        · rename_i hz
          cases e
          exact use_op (op_neD (by omega)) ⟨_, _, dx, dy, hz.1, hz.2, q⟩
        · cases e
      · split at e
        · rename_i hz
          cases e
          obtain ⟨z1, z2⟩ := Bool.and_eq_true_iff.mp hz
          exact use_op (op_ltD (by omega)) ⟨_, _, dx, dy, z1, (by intro c; cases c), of_decide_eq_true z2, q⟩
        · cases e
      · cases e; cases rxp; cases ryp; exact use_op op_lt ⟨_, _, rfl, rfl, q⟩
      · cases e; cases rxp; cases ryp; exact use_op op_le ⟨_, _, rfl, rfl, q⟩
      · cases e; cases rxp; cases ryp; exact use_op op_gt ⟨_, _, rfl, rfl, q⟩
      · cases e; cases rxp; cases ryp; exact use_op op_ge ⟨_, _, rfl, rfl, q⟩
      · split at e
        · rename_i hz
          cases e
          exact use_op (op_inD (by omega)) ⟨_, _, dx, dy, hz.1, hz.2, q⟩
        · cases e
      · split at e
        · rename_i hz
          cases e
          exact use_op (op_notInD (by omega)) ⟨_, _, dx, dy, hz.1, hz.2, q⟩
        · cases e
      · split at e
        · rename_i hz
          cases e
          exact use_op (op_inT (by omega)) ⟨_, _, dx, dy, hz.1, hz.2, q⟩
        · cases e
      · split at e
        · rename_i hz
          cases e
          exact use_op (op_niT (by omega)) ⟨_, _, dx, dy, hz.1, hz.2, q⟩
        · cases e
      · cases ryp
        cases e
        exact use_op op_isN ⟨rfl, by rw [isNone_iff rxp]; exact q⟩
      · cases ryp
        cases e
        exact use_op op_notN ⟨rfl, by rw [isNone_iff rxp]; exact q⟩
      · cases rxp; cases ryp; cases e; exact use_op op_isBl ⟨_, _, rfl, rfl, q⟩
      · cases rxp; cases ryp; cases e; exact use_op op_notBl ⟨_, _, rfl, rfl, q⟩
      · cases e

/-! ### truth -/
theorem tru_w {x : U} {t : Bool} {v : V} (e : tru x S = .ok t S') (so : SO X.K z H S) (r : RU X.K z H x v) : S' = S ∧ TruV X.K v H t := by
  unfold tru at e
  cases hd : der S x with
  | none => simp [hd] at e
  | some d =>
    simp only [hd] at e
    cases ht : truD d with
    | none => simp [ht] at e
    | some b =>
      simp only [ht, Res.ok.injEq] at e
      obtain ⟨rfl, rfl⟩ := e
      refine ⟨rfl, ?_⟩
      have rp := der_ok hd so r
      cases d with
      | none => cases rp; cases ht; rfl
      | bool b => cases rp; cases ht; rfl
      | int i => cases rp; cases ht; rfl
      | str s =>
        cases rp
        simp only [truD] at ht
        split at ht
        · rename_i hz
          cases ht
          exact ⟨hz, rfl⟩
        · cases ht
      | list xs =>
        cases ht
        cases rp with
        | lst a b =>
          refine .inl ⟨_, SqL.of a, ?_⟩
          cases b <;> rfl
      | tuple xs =>
        cases ht
        cases rp with
        | tup a b =>
          refine .inr (.inl ⟨_, a, ?_⟩)
          cases b <;> rfl
      | dict _ => cases ht

/-! ### built-in functions -/
theorem RUs.one {vs : List V} {u : U} (r : RUs X.K z H [u] vs) : ∃ v, vs = [v] ∧ RU X.K z H u v := by
  obtain ⟨v, ws, rfl, h, e⟩ := r
  cases e
  exact ⟨v, rfl, h⟩
theorem ders_ok : ∀ {us : List U} {ds : List D} {vs : List V}, ders S us = some ds → SO X.K z H S → RUs X.K z H us vs → RpAll X.K H vs ds
  | [], _, _, e, _, r => by cases e; cases r; exact .nil
  | u :: us, _, _, e, so, r => by
    obtain ⟨v, ws, rfl, r1, r2⟩ := r
    unfold ders at e
    cases h1 : der S u with
    | none => simp [h1] at e
    | some d =>
      cases h2 : ders S us with
      | none => simp [h1, h2] at e
      | some es =>
        simp only [h1, h2, Option.some.injEq] at e
        subst e
        exact .cons (der_ok h1 so r1) (ders_ok h2 so r2)
theorem ders_one {us : List U} {d : D} (e : ders S us = some [d]) : ∃ u, us = [u] ∧ der S u = some d := by
  cases us with
  | nil => cases e
  | cons u us =>
    unfold ders at e
    cases h1 : der S u with
    | none => simp [h1] at e
    | some d1 =>
      cases h2 : ders S us with
      | none => simp [h1, h2] at e
      | some es =>
        simp only [h1, h2, Option.some.injEq, List.cons.injEq] at e
        obtain ⟨rfl, rfl⟩ := e
        cases us with
        | nil => exact ⟨u, rfl, h1⟩
        | cons u2 us2 =>
          unfold ders at h2
          split at h2 <;> cases h2
theorem asBools_ok : ∀ {xs : List D} {bs : List Bool} {vs : List V}, asBools xs = some bs → RpAll X.K H vs xs → vs = bs.map V.bl
  | [], _, _, e, r => by cases e; cases r; rfl
  | d :: ds, _, _, e, r => by
    cases r with
    | cons a b =>
      cases d with
      | bool c =>
        simp only [asBools, Option.map_eq_some_iff] at e
        obtain ⟨bs, h1, rfl⟩ := e
        cases a
        rw [asBools_ok h1 b]
        rfl
      | _ => cases e
theorem asInts_ok : ∀ {xs : List D} {bs : List Int} {vs : List V}, asInts xs = some bs → RpAll X.K H vs xs → vs = bs.map V.int
  | [], _, _, e, r => by cases e; cases r; rfl
  | d :: ds, _, _, e, r => by
    cases r with
    | cons a b =>
      cases d with
      | int c =>
        simp only [asInts, Option.map_eq_some_iff] at e
        obtain ⟨bs, h1, rfl⟩ := e
        cases a
        rw [asInts_ok h1 b]
        rfl
      | _ => cases e
theorem call_divmodA : CallR X (.builtin "divmod") (fun xs H Q => ∃ i j, xs = [.int i, .int j] ∧ (0 < j ∧ j.natAbs.log2 < 9000) ∧ ∀ p, H p = none → Q (.ref p) (upd H p (.tup [.int (i / j), .int (i % j)]))) := by
  intro pins s σ H xs us Q I r h
  obtain ⟨i, j, rfl, ⟨h1, h2⟩, q⟩ := h
  obtain ⟨u, w', rfl, ⟨t, rfl⟩, ⟨t', rfl⟩⟩ := vals2 r
  refine divmod_int (by omega) ?_ (.inl (PyProof.noPylong_of_log2 h2))
  rw [Int.fdiv_eq_ediv_of_nonneg i (by omega), Int.fmod_eq_emod_of_nonneg i (by omega)]
  have hn : H s.heap.objs.size = none := I.hok.fresh (Nat.le_refl _)
  refine ⟨.ref s.heap.objs.size, _, ?_, rfl, q _ hn⟩
  refine I.laid (fun b o e => Heap.get?_push_of_some _ e) (Nat.le_refl _) ⟨by simp only [List.length_cons, List.length_nil]; rw [sizeLine_eq]; decide, [.int (i / j) s.toks, .int (i % j) (s.toks + 1)], .cons ⟨_, rfl⟩ (.cons ⟨_, rfl⟩ .nil), ?_⟩
  exact ⟨_, Heap.get?_push_size s.heap rfl, rfl, 0, rfl⟩
theorem piled_cst : ∀ {ts : List Str} {n : Nat}, piled ts ≤ n → (listText ts).length ≤ n + 4 ∧ (tupleText ts).length ≤ n + 4 := fun {ts n} h => by
  cases ts with
  | nil => exact ⟨Nat.le_trans (by decide) (Nat.le_add_left 4 n), Nat.le_trans (by decide) (Nat.le_add_left 4 n)⟩
  | cons t r =>
    rw [piled_cons] at h
    constructor
    · show (textFrom 1 (("[" : Str) ++ ("" : String) ++ t) r ++ "]").length ≤ _
      rw [strLen_append, textFrom_length_pos _ _ _ (Nat.succ_pos 0), strLen_append, strLen_append]
      have e1 : (("[" : String) : Str).length = 1 := rfl
      have e2 : (("" : String) : Str).length = 0 := rfl
      have e3 : (("]" : String) : Str).length = 1 := rfl
      omega
    · have e := join_length_add (t :: r) (by simp)
      rw [piled_cons] at e
      unfold tupleText
      rw [strLen_append, strLen_append]
      have e1 : (("(" : String) : Str).length = 1 := rfl
      have e3 : (((if (t :: r).length == 1 then ",)" else ")" : String) : Str)).length ≤ 2 := by split <;> decide
      omega
mutual
theorem shown_cst : ∀ d : D, d.showable = true → d.hasDict = false → d.shown.length ≤ cst d
  | .none, _, _ => by rw [PyData.shown, cst]; decide
  | .bool b, _, _ => by rw [PyData.shown, cst]; cases b <;> decide
  | .int i, h, _ => by
    rw [PyData.shown, cst]
    exact int_text_len_1921 (by simpa [PyData.showable] using h)
  | .str x, _, _ => by rw [PyData.shown, cst]; exact Nat.le_refl _
  | .list xs, h, g => by
    rw [PyData.shown, cst]
    exact (piled_cst (shownAll_cst xs (by simpa [PyData.showable] using h) (by simpa [PyData.hasDict] using g))).1
  | .tuple xs, h, g => by
    rw [PyData.shown, cst]
    exact (piled_cst (shownAll_cst xs (by simpa [PyData.showable] using h) (by simpa [PyData.hasDict] using g))).2
  | .dict _, _, g => by simp [PyData.hasDict] at g
theorem shownAll_cst : ∀ ds : List D, PyData.showableAll ds = true → PyData.hasDictAll ds = false → piled (PyData.shownAll ds) ≤ cstAll ds
  | [], _, _ => by rw [PyData.shownAll, cstAll]; exact Nat.le_refl _
  | d :: ds, h, g => by
    rw [PyData.shownAll, cstAll, piled_cons]
    have h' : d.showable = true ∧ PyData.showableAll ds = true := by simpa [PyData.showableAll] using h
    have g' : d.hasDict = false ∧ PyData.hasDictAll ds = false := by simpa [PyData.hasDictAll] using g
    have a := shown_cst d h'.1 g'.1
    have b := shownAll_cst ds h'.2 g'.2
    omega
end
theorem rpB_ok {d : D} (h : rpB d = true) : d.showable = true ∧ d.hasDict = false ∧ d.depth ≤ 50 ∧ d.shown.length ≤ sizeLine := by
  unfold rpB at h
  simp only [Bool.and_eq_true, Bool.not_eq_true', decide_eq_true_eq] at h
  obtain ⟨a, b, c, e⟩ := h
  exact ⟨a, b, c, Nat.le_trans (shown_cst d a b) e⟩
theorem call_reprD (G : Gd X) : CallR X (.builtin "repr") (fun xs H Q => ∃ v d, xs = [v] ∧ Dp X.K H v d ∧ d.showable = true ∧ d.hasDict = false ∧ d.depth ≤ 50 ∧ d.shown.length ≤ sizeLine ∧ Q (.str d.shown) H) := by
  intro pins s σ H xs us Q I r h
  obtain ⟨v, d, rfl, dp, h1, h2, h3, h4, q⟩ := h
  obtain ⟨u, rfl, ru⟩ := vals1 r
  have hu := G.hu
  obtain ⟨as, rd⟩ := Dp.reads I d v u dp ru
  have fin : ∀ t, EP X pins σ Q (.str d.shown t) { s with toks := s.toks + 1 } := fun t => ⟨.str _, H, I.tok _, ⟨_, rfl⟩, q⟩
  cases rd with
  | none => simp only [PyData.shown] at fin; exact PySem.P.repr_of_none (fin _)
  | bool b => simp only [PyData.shown] at fin; exact PySem.P.repr_of_bool (fin _)
  | int i t => simp only [PyData.shown] at fin; exact PySem.P.repr_of_int (by simpa [PyData.showable] using h1) (fin _)
  | str x t => simp only [PyData.shown] at fin; exact PySem.P.repr_of_str (fin _) (by simpa only [PyData.shown] using h4)
  | list a b c e =>
    exact repr_of_reads' (.list a b c e) h1 (PyData.noDict_hsm h2) G.grd (by omega) (fun _ _ e => e) (fun h' u tk hk => ⟨.str _, H, I.kept (t' := tk) hk, ⟨_, rfl⟩, q⟩) h4
  | tuple a b c e =>
    exact repr_of_reads' (.tuple a b c e) h1 (PyData.noDict_hsm h2) G.grd (by omega) (fun _ _ e => e) (fun h' u tk hk => ⟨.str _, H, I.kept (t' := tk) hk, ⟨_, rfl⟩, q⟩) h4
  | dict a b c e f => simp [PyData.hasDict] at h2
def bfV : Bf → Value
  | .len => .builtin "len"
  | .all => .builtin "all"
  | .any => .builtin "any"
  | .tuple => .type "tuple"
  | .list _ => .type "list"
  | .abs => .builtin "abs"
  | .min => .builtin "min"
  | .max => .builtin "max"
  | .int => .type "int"
  | .repr => .builtin "repr"
  | .sum => .builtin "sum"
  | .divmod => .builtin "divmod"
  | .gcd => .builtin "math.gcd"
  | .isqrt => .builtin "math.isqrt"
  | .bool => .type "bool"
theorem call_isq : CallR X (.builtin "math.isqrt") (fun xs H Q => ∃ i : Int, xs = [.int i] ∧ (0 ≤ i ∧ i.toNat.log2 < 13000) ∧ Q (.int ((Float64.isqrt i.toNat : Nat) : Int)) H) := by
  intro pins s σ H vs us Q I r h
  obtain ⟨a, rfl, hc, q⟩ := h
  obtain ⟨t, rfl⟩ : ∃ t, us = [Value.int a t] := by
    cases r with
    | cons p p' =>
      cases p'
      obtain ⟨t, rfl⟩ := p
      exact ⟨t, rfl⟩
  exact call_function_meets PySem.W.MGF.kind_isqrt PySem.W.MGF.plain_isqrt PySem.W.MGF.entry_isqrt (PySem.W.MGF.args_isqrt _) (PySem.W.mg_run_isqrt a t (by omega) (by omega) (by omega)).meets ⟨.int _, H, I.tok _, ⟨_, rfl⟩, q⟩
theorem blt_ok (G : Gd X) {f : Bf} {us : List U} {vs : List V} (e : bltU f us S = .ok u S') (so : SO X.K z H S) (r : RUs X.K z H us vs) (q : Aft X.K z H S' u Q) : wC X (bfV f) vs H Q := by
  unfold bltU at e
  split at e
  · -- len of the script
    rename_i xs
    cases e
    obtain ⟨v, rfl, a, ws, rfl, h1, h2⟩ := r.one
    refine use_call call_len_seq ⟨a, ws, rfl, .inl (Im.le.sqL h1), ?_⟩
    rw [h2.length]
    exact aft0 q so (.int _)
  · rename_i m xs
    obtain ⟨v, rfl, a, ws, rfl, h1, h2⟩ := r.one
    exact use_call call_list_of ⟨a, ws, rfl, .inl (Im.le.sqL h1), fun l hn => new_lst e so hn h2 q⟩
  · rename_i m us _
    split at e
    · rename_i xs hd
      obtain ⟨u1, rfl, h1⟩ := ders_one hd
      obtain ⟨v, rfl, r1⟩ := r.one
      obtain ⟨p, ws, rfl, hp, ra⟩ := der_lst h1 so r1
      exact use_call call_list_of ⟨p, ws, rfl, .inl (SqL.of hp), fun l hn => new_lst e so hn ra q⟩
    · rename_i xs hd
      obtain ⟨u1, rfl, h1⟩ := ders_one hd
      obtain ⟨v, rfl, r1⟩ := r.one
      obtain ⟨p, ws, rfl, hp, ra⟩ := der_tup h1 so r1
      exact use_call call_list_of ⟨p, ws, rfl, .inr (Im.le.sqT hp), fun l hn => new_lst e so hn ra q⟩
    · cases e
  · rename_i f us hf1 hf2
    split at e
    · rename_i ds hd
      split at e
      · rename_i d hb
        cases e
        have rp := ders_ok hd so r
        unfold bltD at hb
        split at hb
        · cases hb
          cases rp with
          | cons a b =>
            cases b
            cases a with
            | lst a b => exact use_call call_len_seq ⟨_, _, rfl, .inl (SqL.of a), by rw [b.length]; exact aft0 q so (.int _)⟩
        · cases hb
          cases rp with
          | cons a b =>
            cases b
            cases a with
            | tup a b => exact use_call call_len_seq ⟨_, _, rfl, .inr a, by rw [b.length]; exact aft0 q so (.int _)⟩
        · split at hb
          · rename_i hz
            cases hb
            cases rp with
            | cons a b => cases b; cases a; exact use_call call_len_str ⟨_, rfl, hz, aft0 q so (.int _)⟩
          · cases hb
        · simp only [Option.map_eq_some_iff] at hb
          obtain ⟨bs, h1, rfl⟩ := hb
          cases rp with
          | cons a b =>
            cases b
            cases a with
            | lst a b =>
              rw [asBools_ok (X := X) h1 b] at a
              exact use_call (cr_all G.calm) ⟨_, _, rfl, SqL.of a, aft0 q so (.bl _)⟩
        · simp only [Option.map_eq_some_iff] at hb
          obtain ⟨bs, h1, rfl⟩ := hb
          cases rp with
          | cons a b =>
            cases b
            cases a with
            | lst a b =>
              rw [asBools_ok (X := X) h1 b] at a
              exact use_call (cr_any G.calm) ⟨_, _, rfl, SqL.of a, aft0 q so (.bl _)⟩
        · rename_i xs
          cases hb
          obtain ⟨u1, rfl, h1⟩ := ders_one hd
          obtain ⟨v, rfl, r1⟩ := r.one
          obtain ⟨p, ws, rfl, hp, ra⟩ := der_lst h1 so r1
          exact use_call call_tuple_of ⟨p, ws, rfl, .inl ⟨SqL.of hp, fun l hn => new_tup so hn ra q⟩⟩
        · rename_i xs
          cases hb
          obtain ⟨u1, rfl, h1⟩ := ders_one hd
          obtain ⟨v, rfl, r1⟩ := r.one
          obtain ⟨p, ws, rfl, hp, ra⟩ := der_tup h1 so r1
          exact use_call call_tuple_of ⟨p, ws, rfl, .inr ⟨Im.le.sqT hp, aft0 q so (.tup hp ra)⟩⟩
        · cases hb; cases rp with | cons a b => cases b; cases a; exact use_call call_abs ⟨_, rfl, aft0 q so (.int _)⟩
        · cases hb; cases rp with | cons a b => cases b with | cons c d => cases d; cases a; cases c; exact use_call (call_max2 G.calm) ⟨_, _, rfl, aft0 q so (.int _)⟩
        · cases hb; cases rp with | cons a b => cases b with | cons c d => cases d; cases a; cases c; exact use_call (call_min2 G.calm) ⟨_, _, rfl, aft0 q so (.int _)⟩
        · cases hb; cases rp with | cons a b => cases b; cases a; exact use_call call_int1 (.inl ⟨_, rfl, aft0 q so (.int _)⟩)
        · cases hb; cases rp with | cons a b => cases b; cases a; exact use_call call_int1 (.inr ⟨_, rfl, aft0 q so (.int _)⟩)
        · cases hb; cases rp with | cons a b => cases b; cases a; exact use_call call_bool1 (.inl ⟨_, rfl, aft0 q so (.bl _)⟩)
        · cases hb; cases rp with | cons a b => cases b; cases a; exact use_call call_bool1 (.inr ⟨_, rfl, aft0 q so (.bl _)⟩)
        · split at hb
          · rename_i hz
            cases hb
            cases rp with
            | cons a b =>
              cases b
              obtain ⟨z1, z2, z3, z4⟩ := rpB_ok hz
              exact use_call (call_reprD G) ⟨_, _, rfl, Rp.dp _ _ a, z1, z2, z3, z4, aft0 q so (.str _)⟩
          · cases hb
        · simp only [Option.map_eq_some_iff] at hb
          obtain ⟨bs, h1, rfl⟩ := hb
          cases rp with
          | cons a b =>
            cases b
            cases a with
            | lst a b =>
              rw [asInts_ok (X := X) h1 b] at a
              exact use_call (cr_sum G.calm) ⟨_, _, rfl, SqL.of a, aft0 q so (.int _)⟩
        · split at hb
          · rename_i hz
            cases hb
            cases rp with
            | cons a b =>
              cases b with
              | cons c d => cases d; cases a; cases c; exact use_call call_divmodA ⟨_, _, rfl, hz, fun l hn => new_tup so hn (.cons (.int _) (.cons (.int _) .nil)) q⟩
          · cases hb
        · cases hb; cases rp with | cons a b => cases b with | cons c d => cases d; cases a; cases c; exact use_call cr_gcd ⟨_, _, rfl, aft0 q so (.int _)⟩
        · split at hb
          · rename_i hz
            cases hb
            cases rp with
            | cons a b =>
              cases b
              cases a
              exact use_call call_isq ⟨_, rfl, hz, aft0 q so (.int _)⟩
          · cases hb
        · cases hb
      · cases e
    · cases e

/-! ### isinstance -/
def tyN : Ty → String
  | .int => "int"
  | .bool => "bool"
  | .tuple => "tuple"
  | .list => "list"
  | .str => "str"
def tyD : D → String
  | .none => "NoneType"
  | .bool _ => "bool"
  | .int _ => "int"
  | .str _ => "str"
  | .list _ => "list"
  | .tuple _ => "tuple"
  | .dict _ => "dict"
theorem kit_isi : ∀ (t : Ty) (d : D), (∀ kvs, d ≠ .dict kvs) → kitB (tyD d) (tyN t) = some (isiD t d) := by
  intro t d h
  cases d with
  | dict kvs => exact absurd rfl (h kvs)
  | none => cases t <;> decide +kernel
  | bool b => cases t <;> kernel_rfl
  | int b => cases t <;> kernel_rfl
  | str b => cases t <;> kernel_rfl
  | list b => cases t <;> kernel_rfl
  | tuple b => cases t <;> kernel_rfl
theorem tyx_ok {v : V} {d : D} (r : Rp X.K H v d) : TyX X.K H v (.type (tyD d)) := by
  cases r with
  | non => exact .base .non
  | bl b => exact .base (.bl b)
  | int i => exact .base (.int i)
  | str x => exact .base (.str x)
  | lst a b => exact .base (.lst a)
  | tup a b =>
    rcases a with a | ⟨o, its, n, h1, h2, _⟩
    · rcases a with a | ⟨o, a⟩
      · exact .base (.tup a)
      · exact .fTuple a
    · exact .kTuple h1 h2
theorem isi_ok {x : U} {d : D} {t : Ty} {v : V} (e : der S x = some d) (so : SO X.K z H S) (r : RU X.K z H x v) (q : Q (.bl (isiD t d)) H) : wC X (.builtin "isinstance") [v, .ty (tyN t)] H Q := by
  have rp := der_ok e so r
  refine use_call call_isi ⟨v, .ty (tyN t), _, _, _, rfl, .ty _, tyx_ok rp, kit_ty (kit_isi t d fun kvs c => ?_), q⟩
  subst c
  cases rp

/-! ### items, slices -/
def wX (X : Cx) (x y : V) (H : Hp) (Q : VK) : Prop :=
  ∀ (value slice : Expr) (pins : List (Addr × Obj)) (s : Shared) (σ : L2.St) (v u : Value), Inv X pins σ H s → RelV x v → RelV y u →
    subscripted slice false v u = operate [v, u] (getItem v u) → wpAny (model X.prog X.w) X.A (subscriptTail value slice v u) (EP X pins σ Q) X.xe s
theorem ix_w : IxR X (fun x y H Q => wX X x y H Q) := fun value slice pins s σ H x y v u Q I rx ry h hs => h value slice pins s σ v u I rx ry hs
theorem use_ix {r : R2} (h : IxR X r) {x y : V} (q : r x y H Q) : wX X x y H Q := fun value slice pins s σ v u I rx ry hs => h value slice pins s σ H x y v u Q I rx ry q hs
theorem atI_ok {K : PySem.W.Frag} {H0 : Hp} {ds : List D} {vs : List V} {i : Int} {d : D} (r : RpAll K H0 vs ds) (e : atI ds i = some d) : ∃ v, atI vs i = some v ∧ Rp K H0 v d := by
  unfold atI at e ⊢
  rw [r.length]
  cases h : ixN ds.length i with
  | none => rw [h] at e; cases e
  | some j =>
    rw [h] at e
    exact r.get e
theorem idx_ok {x y : U} {vx vy : V} (e : idxU x y S = .ok u S') (so : SO X.K z H S) (rx : RU X.K z H x vx) (ry : RU X.K z H y vy) (q : Aft X.K z H S' u Q) : wX X vx vy H Q := by
  unfold idxU at e
  split at e
  · rename_i xs i
    split at e
    · rename_i d hd
      cases e
      obtain ⟨a, ws, rfl, h1, h2⟩ := rx
      cases ry
      obtain ⟨v, h3, h4⟩ := atI_ok h2 hd
      exact use_ix ix_list ⟨a, ws, _, v, rfl, rfl, Im.le.sqL h1, h3, aft0 q so h4⟩
    · cases e
  · rename_i x y _
    split at e
    · rename_i a b ha hb
      split at e
      · rename_i d hd
        cases e
        unfold idxD at hd
        split at hd
        · obtain ⟨p, ws, rfl, hp, ra⟩ := der_lst ha so rx
          obtain rfl := der_int hb ry
          obtain ⟨v, h3, h4⟩ := atI_ok ra hd
          exact use_ix ix_list ⟨p, ws, _, v, rfl, rfl, SqL.of hp, h3, aft0 q so h4⟩
        · obtain ⟨p, ws, rfl, hp, ra⟩ := der_tup ha so rx
          obtain rfl := der_int hb ry
          obtain ⟨v, h3, h4⟩ := atI_ok ra hd
          exact use_ix ix_tup ⟨p, ws, _, v, rfl, rfl, Im.le.sqT hp, h3, aft0 q so h4⟩
        · cases hd
      · cases e
    · cases e
def wS (X : Cx) (x : V) (lo hi : Option Int) (H : Hp) (Q : VK) : Prop :=
  ∀ (pins : List (Addr × Obj)) (s : Shared) (σ : L2.St) (v vl vu : Value) (sl : Addr), Inv X pins σ H s → RelV x v → s.heap.IsSliceOf sl vl vu .none → IsPart vl lo → IsPart vu hi →
    ∃ T id, typeLookup (.type T) "__getitem__" = pure (some (.builtin id)) ∧ s.TypeIs v T ∧ wpAny (model X.prog X.w) X.A (getItem v (.ref sl)) (EP X pins σ Q) X.xe s
theorem sl_w : SlR X (fun x lo hi H Q => wS X x lo hi H Q) := fun pins s σ H x v vl vu lo hi sl Q I rx hs pl pu h => h pins s σ v vl vu sl I rx hs pl pu
theorem use_sl {r : V → Option Int → Option Int → Hp → VK → Prop} (h : SlR X r) {x : V} {lo hi : Option Int} (q : r x lo hi H Q) : wS X x lo hi H Q := fun pins s σ v vl vu sl I rx hs pl pu => h pins s σ H x v vl vu lo hi sl Q I rx hs pl pu q
theorem cut_ok {K : PySem.W.Frag} {H0 : Hp} {ds : List D} {vs : List V} {lo hi : Option Int} (r : RpAll K H0 vs ds) : RpAll K H0 (cutV vs lo hi) (cutD ds lo hi) := by
  unfold cutV cutD
  rw [r.length]
  exact (r.drop _).take _
theorem sl_ok {m : Bool} {x : U} {vx : V} {lo hi : Option Int} (e : slU m x lo hi S = .ok u S') (so : SO X.K z H S) (rx : RU X.K z H x vx) (q : Aft X.K z H S' u Q) : wS X vx lo hi H Q := by
  unfold slU at e
  split at e
  · obtain ⟨a, ws, rfl, h1, h2⟩ := rx
    exact use_sl sl_list ⟨a, ws, rfl, Im.le.sqL h1, fun l hn => new_lst e so hn (cut_ok h2) q⟩
  · rename_i x _
    split at e
    · rename_i xs hd
      obtain ⟨p, ws, rfl, hp, ra⟩ := der_lst hd so rx
      exact use_sl sl_list ⟨p, ws, rfl, SqL.of hp, fun l hn => new_lst e so hn (cut_ok ra) q⟩
    · rename_i xs hd
      cases e
      obtain ⟨p, ws, rfl, hp, ra⟩ := der_tup hd so rx
      refine use_sl sl_tupA ⟨p, ws, rfl, Im.le.sqT hp, fun hz => ?_, fun _ l hn => new_tup so hn (cut_ok ra) q⟩
      have hc : cutD xs lo hi = xs := by
        rw [ra.length] at hz
        unfold cutD
        rw [hz.1, hz.2]
        simp
      rw [hc] at q
      exact aft0 q so (.tup hp ra)
    · cases e

def wM (X : Cx) (id : String) (x : V) (xs : List V) (H : Hp) (Q : VK) : Prop :=
  ∀ (pins : List (Addr × Obj)) (s : Shared) (σ : L2.St) (v : Value) (us : List Value), Inv X pins σ H s → RelV x v → Vals xs us → wpAny (model X.prog X.w) X.A (PySem.call (.builtin id) (v :: us)) (EP X pins σ Q) X.xe s
theorem mt_w {id : String} : MtR X id (fun x xs H Q => wM X id x xs H Q) := fun pins s σ H x xs v us Q I rx rv h => h pins s σ v us I rx rv
theorem use_mt {id : String} {r : V → List V → Hp → VK → Prop} (h : MtR X id r) {x : V} {xs : List V} (q : r x xs H Q) : wM X id x xs H Q := fun pins s σ v us I rx rv => h pins s σ H x xs v us Q I rx rv q
/-! ### operations of one value and of two -/
theorem op1_ok {f : O1} {x : U} {vx : V} (e : op1U f x S = .ok u S') (so : SO X.K z H S) (rx : RU X.K z H x vx) : S' = S ∧ match f with
    | .bits => ∃ i : Int, vx = .int i ∧ u = .d (.int (Builtin.Int.intBits i : Nat))
    | .rev => ∃ xs, x = .d (.list xs) ∧ u = .d (.list xs.reverse) := by
  cases x with
  | r _ => cases e
  | k _ => cases e
  | d a =>
    unfold op1U at e
    cases hc : op1D f a with
    | none => simp [hc] at e
    | some c =>
      simp only [hc, Res.ok.injEq] at e
      obtain ⟨rfl, rfl⟩ := e
      refine ⟨rfl, ?_⟩
      cases f with
      | bits =>
        cases a with
        | int i =>
          cases hc
          cases rx
          exact ⟨i, rfl, rfl⟩
        | _ => cases hc
      | rev =>
        cases a with
        | list xs =>
          cases hc
          exact ⟨xs, rfl, rfl⟩
        | _ => cases hc
theorem firstIx_ok {d : D} : ∀ {ds : List D} {j : Nat}, firstIx d ds = some j → ∃ z, ds[j]? = some z ∧ PyData.eqv z d = true ∧ ∀ (m : Nat) (z' : D), m < j → ds[m]? = some z' → PyData.eqv z' d = false
  | [], _, h => by cases h
  | z :: r, j, h => by
    unfold firstIx at h
    by_cases k : PyData.eqv z d = true
    · rw [if_pos k] at h
      cases h
      exact ⟨z, rfl, k, fun m z' hm => by omega⟩
    · rw [if_neg k] at h
      obtain ⟨i, h2, rfl⟩ := Option.map_eq_some_iff.mp h
      obtain ⟨w, a, b, c⟩ := firstIx_ok h2
      refine ⟨w, by simpa using a, b, fun m z' hm e => ?_⟩
      cases m with
      | zero => cases e; simpa using k
      | succ m => exact c m z' (by omega) (by simpa using e)
theorem mt_countD (hu : X.A.units + 65 < cLine) : MtR X "list.count" (fun x xs H Q => ∃ (a : Addr) (y : V) (d : PyData) (ds : List PyData), x = V.ref a ∧ xs = [y] ∧ Dp X.K H (V.ref a) (.list ds) ∧ Dp X.K H y d ∧ SeqAt.shaped (.list ds) = true ∧ SeqAt.shaped d = true ∧ Q (.int ((ds.countP fun z => PyData.eqv z d : Nat) : Int)) H) := by
  intro pins s σ H x xs v us Q I rx rxs h
  obtain ⟨a, y, d, ds, rfl, rfl, hl, hy, sl, sd, q⟩ := h
  cases rx
  obtain ⟨uy, rfl, ry⟩ := vals1 rxs
  obtain ⟨bs, r1⟩ := Dp.reads I d y uy hy ry
  have hxs : PyData.canLayAll0 ds = true := SeqAt.canLay_of_shaped sl
  have hroom : X.A.units + 1 + min (PyData.depthAll ds) d.depth < cLine := room_in_shaped sd hu
  cases hl with
  | lst hs ha =>
    obtain ⟨its, rv, ⟨⟨cls, dd, data, sls⟩, n, ho, hc, hdn, hdt⟩, hlen⟩ := I.list hs
    simp only at hc hdt
    subst hc hdt
    obtain ⟨as, h4⟩ := Dp.readsAll I ds _ its ha rv
    have hmap : its.map (SeqAt.readOf s.heap) = ds := SeqAt.readsAll_map ds its as hxs h4
    refine call_meets PySem.F.slot_list_count ⟨_, ho, rfl⟩ PySem.F.entry_list_count (PySem.F.args_list_count_2 _ _)
      (SeqAt.list_countAt a its.toArray n dd sls uy (fun u => PyData.eqv (SeqAt.readOf s.heap u) d)) ⟨ho, SeqAt.items_eqAt (vs := its.toArray) (show ReadsAll s.heap its.toArray.toList ds as from h4) r1 hxs (SeqAt.canLay_of_shaped sd) hroom, ?_⟩
    have ec : its.toArray.toList.countP (fun u => PyData.eqv (SeqAt.readOf s.heap u) d) = ds.countP fun z => PyData.eqv z d := by
      rw [← hmap, List.countP_map]
      rfl
    refine ⟨.int ((ds.countP fun z => PyData.eqv z d : Nat) : Int), H, I.tok _, ⟨s.toks, ?_⟩, q⟩
    show Value.int ((its.toArray.toList.countP (fun u => PyData.eqv (SeqAt.readOf s.heap u) d) : Nat) : Int) s.toks = Value.int ((ds.countP fun z => PyData.eqv z d : Nat) : Int) s.toks
    rw [ec]
def o2N : O2 → String
  | .index => "list.index"
  | .count => "list.count"
theorem op2_lst {f : O2} {x y : U} (e : op2U f x y S = .ok u S') : S' = S ∧ ∃ ds d, der S x = some (.list ds) ∧ der S y = some d ∧ sh d = true ∧ sh (.list ds) = true := by
  unfold op2U at e
  cases ha : der S x with
  | none => simp [ha] at e
  | some a =>
    cases hb : der S y with
    | none => simp [ha, hb] at e
    | some b =>
      simp only [ha, hb] at e
      cases hc : op2D f a b with
      | none => simp [hc] at e
      | some c =>
        simp only [hc, Res.ok.injEq] at e
        obtain ⟨rfl, rfl⟩ := e
        unfold op2D at hc
        split at hc
        · split at hc
          · rename_i hz
            exact ⟨rfl, _, _, rfl, rfl, hz.1, hz.2⟩
          · cases hc
        · split at hc
          · rename_i hz
            exact ⟨rfl, _, _, rfl, rfl, hz.1, hz.2⟩
          · cases hc
        · cases hc
theorem op2_ok (G : Gd X) {f : O2} {x y : U} {vx vy : V} (e : op2U f x y S = .ok u S') (so : SO X.K z H S) (rx : RU X.K z H x vx) (ry : RU X.K z H y vy) (q : Aft X.K z H S' u Q) : (∃ a ys, vx = .ref a ∧ SqL X.K H a ys) ∧ wM X (o2N f) vx [vy] H Q := by
  have hu := G.hu
  obtain ⟨rfl, ds, d, ha, hb, s1, s2⟩ := op2_lst e
  obtain ⟨p, ws, rfl, hp, ra⟩ := der_lst ha so rx
  have dy := Rp.dp _ _ (der_ok hb so ry)
  have dx : Dp X.K H (.ref p) (.list ds) := .lst (SqL.of hp) (RpAll.dp _ _ (RpAll.mono Im.le _ _ ra))
  refine ⟨⟨p, ws, rfl, SqL.of hp⟩, ?_⟩
  unfold op2U at e
  simp only [ha, hb] at e
  cases f with
  | index =>
    simp only [op2D, if_pos (And.intro s1 s2)] at e
    cases hj : firstIx d ds with
    | none => simp [hj] at e
    | some j =>
      simp only [hj, Option.map_some, Res.ok.injEq] at e
      obtain ⟨rfl, _⟩ := e
      obtain ⟨w, k1, k2, k3⟩ := firstIx_ok hj
      exact use_mt (mt_indexD (by omega)) ⟨p, vy, d, ds, j, w, rfl, rfl, dx, dy, s2, s1, k1, k2, k3, aft0 q so (.int _)⟩
  | count =>
    simp only [op2D, if_pos (And.intro s1 s2)] at e
    simp only [Res.ok.injEq] at e
    obtain ⟨rfl, _⟩ := e
    exact use_mt (mt_countD (by omega)) ⟨p, vy, d, ds, rfl, rfl, dx, dy, s2, s1, aft0 q so (.int _)⟩

/-! ### methods, stores -/
def mtN : Mt → String
  | .append => "list.append"
  | .extend => "list.extend"
  | .pop => "list.pop"
  | .insert => "list.insert"
  | .popAt => "list.pop"
theorem own_ok {i : Nat} {xs : List D} {v : V} (e : S[i]? = some (some xs)) (so : SO X.K z H S) (r : RU X.K z H (.r i) v) : ∃ p vs, v = .ref p ∧ z.cs[i]? = some (some p) ∧ H p = some (.lst vs) ∧ RpAll X.K (Im z H) vs xs := by
  obtain ⟨p, vs, h1, h2, h3⟩ := so.al i xs e
  exact ⟨p, vs, r.2 p h1, h1, h2, h3⟩
theorem wr_ok {i : Nat} {p : Addr} {vs : List V} {ds : List D} {d : D} {v : V} (so : SO X.K z H S) (hi : z.cs[i]? = some (some p)) (ra : RpAll X.K (Im z H) vs ds) (rv : Rp X.K (Im z H) v d) (q : Aft X.K z H (S.set i (some ds)) (.d d) Q) :
    Q v (upd H p (.lst vs)) :=
  q z _ _ (Ext.write hi (so.dj i p hi)) (so.write hi ra) (Rp.mono (Ext.write (z := z) (H := H) (o := .lst vs) hi (so.dj i p hi)).im _ _ rv)
theorem meth_ok {f : Mt} {o : U} {us : List U} {vo : V} {vs : List V} (e : methU f o us S = .ok u S') (so : SO X.K z H S) (ro : RU X.K z H o vo) (r : RUs X.K z H us vs) (q : Aft X.K z H S' u Q) :
    (∃ xs, ∃ p, vo = .ref p ∧ SqL X.K H p xs) ∧ wM X (mtN f) vo vs H Q := by
  unfold methU at e
  split at e
  · rename_i i
    split at e
    · rename_i xs hi
      obtain ⟨p, ws, rfl, hc, hp, ra⟩ := own_ok hi so ro
      refine ⟨⟨ws, p, rfl, SqL.of hp⟩, ?_⟩
      split at e
      · rename_i u1
        obtain ⟨v, rfl, r1⟩ := r.one
        obtain ⟨d, S1, e1, e2⟩ := bind_ok e
        obtain ⟨z1, x1, so1, rd⟩ := frz_ok e1 so r1
        split at e2
        · rename_i ys hi1
          split at e2
          · rename_i hz
            cases e2
            obtain ⟨p2, ws2, e3, hc2, hp2, ra2⟩ := own_ok (X := X) hi1 so1 (RU.mono x1 ro)
            cases e3
            rw [hp] at hp2
            cases hp2
            exact use_mt mt_append ⟨p, ws, v, rfl, rfl, hp, by rw [ra2.length]; exact hz, wr_ok so1 hc2 (ra2.append (.cons rd .nil)) .non fun z' H' v' a b c => q z' H' v' (x1.trans a) b c⟩
          · cases e2
        · cases e2
      · rename_i u1
        obtain ⟨v, rfl, r1⟩ := r.one
        split at e
        · rename_i ys hd
          split at e
          · rename_i hz
            cases e
            obtain ⟨p2, ws2, rfl, hp2, ra2⟩ := der_lst hd so r1
            exact use_mt mt_extend ⟨p, p2, ws, ws2, rfl, rfl, hp, hp2, by rw [ra.length, ra2.length]; exact hz, wr_ok so hc (ra.append ra2) .non q⟩
          · cases e
        · cases e
      · cases r
        split at e
        · rename_i d hd
          cases e
          obtain ⟨v, hv, rv⟩ := ra.get hd
          exact use_mt mt_pop ⟨p, ws, v, rfl, rfl, hp, by rw [ra.length]; exact hv, wr_ok so hc ra.dropLast rv q⟩
        · cases e
      · cases e
    · cases e
  · cases e
def wSt (X : Cx) (o i v : V) (H : Hp) (Q : Hp → Prop) : Prop :=
  ∀ (pins : List (Addr × Obj)) (s : Shared) (σ : L2.St) (ov iv u : Value), Inv X pins σ H s → RelV o ov → RelV i iv → RelV v u → wpAny (model X.prog X.w) X.A (setItem ov iv u) (fun _ s' => ∃ H', Inv X pins σ H' s' ∧ Q H') X.xe s
theorem st_w : PSet X (fun o i v H Q => wSt X o i v H Q) := fun pins s σ H o i v ov iv u Q I ro ri rv h => h pins s σ ov iv u I ro ri rv
theorem use_st {o i v : V} {Q : Hp → Prop} (q : rSetL o i v H Q) : wSt X o i v H Q := fun pins s σ ov iv u I ro ri rv => set_list pins s σ H o i v ov iv u Q I ro ri rv q
theorem set_ok {o i v : U} {vo vi vv : V} {a : Unit} {Q : Hp → Prop} (e : setU o i v S = .ok a S') (so : SO X.K z H S) (ro : RU X.K z H o vo) (ri : RU X.K z H i vi) (rv : RU X.K z H v vv)
    (q : ∀ z' H', Ext z H z' H' → SO X.K z' H' S' → Q H') : wSt X vo vi vv H Q := by
  unfold setU at e
  split at e
  · rename_i j k d
    split at e
    · rename_i xs hj
      split at e
      · rename_i n hn
        cases e
        obtain ⟨p, ws, rfl, hc, hp, ra⟩ := own_ok hj so ro
        cases ri
        exact use_st ⟨p, ws, k, n, rfl, rfl, hp, by rw [ra.length]; exact hn, q z _ (Ext.write hc (so.dj j p hc)) (so.write hc (ra.set n rv))⟩
      · cases e
    · cases e
  · cases e
end
end Ev

/-! Ev3: the text and its compiled form. -/
namespace Ev
open PySem PySem.Spec PyProof.Rows L2

/-- what is known of a block's text: its slots, its scope, the names whose cells it made, the defs' names, the module's constants and functions of math, the calls' forms -/
structure Sc where
  N : List Str
  sc : Scope
  fn : Str → Bool
  fs : List Str
  cs : List (Str × D)
  ms : List (Str × Bf)
  pt : List (Nat × Nat × List Str × List Nat)
def Sc.blk (c : Sc) (scope : Scope) : Sc := { c with sc := relS scope c.sc, fn := fun x => scope.names.lookup x == some .cell }
def bfName : Bf → Str
  | .len => "len"
  | .all => "all"
  | .any => "any"
  | .tuple => "tuple"
  | .list _ => "list"
  | .abs => "abs"
  | .min => "min"
  | .max => "max"
  | .int => "int"
  | .repr => "repr"
  | .sum => "sum"
  | .divmod => "divmod"
  | .gcd => ""
  | .isqrt => ""
  | .bool => "bool"
def bfFree : Bf → Bool
  | .gcd => false
  | .isqrt => false
  | _ => true
def tyS : Ty → Str
  | .int => "int"
  | .bool => "bool"
  | .tuple => "tuple"
  | .list => "list"
  | .str => "str"
def mtS : Mt → Str
  | .append => "append"
  | .extend => "extend"
  | .pop => "pop"
  | .insert => "insert"
  | .popAt => "pop"
def o2S : O2 → Str
  | .index => "index"
  | .count => "count"
def mtOk : Mt → Bool
  | .append => true
  | .extend => true
  | .pop => true
  | _ => false
def notDbg (x : Str) : Prop := (x == ("__debug__" : Str)) = false
def GlS (c : Sc) (x : Str) : Prop := c.sc.names.lookup x = some .globalImplicit ∧ notDbg x
mutual
def Tg.within (own : List Nat) : Tg → Bool
  | .name i => own.contains i
  | .sub _ _ => true
  | .tup ts => ts.within own
def Tgs.within (own : List Nat) : Tgs → Bool
  | .nil => true
  | .cons t ts => t.within own && ts.within own
end
def notSet : Expr → Bool
  | .Set .. => false
  | _ => true
def notCall : Expr → Bool
  | .Call .. => false
  | _ => true
def notSlice : Expr → Bool
  | .Slice .. => false
  | _ => true
def Exs.length : Exs → Nat
  | .nil => 0
  | .cons _ es => es.length + 1
mutual
inductive CE : Sc → Bool → Expr → Ex → Prop
  | var {c : Sc} {m : Bool} {x : Str} {i : Nat} {pos : Pos} (h : c.N[i]? = some x) (v : Vis c.sc x) (d : notDbg x) (d2 : (x == ("__classdict__" : Str)) = false) : CE c m (.Name x pos) (.var i)
  | gvar {c : Sc} {m : Bool} {x : Str} {d : D} {pos : Pos} (h : GlS c x) (e : c.cs.lookup x = some d) : CE c m (.Name x pos) (.con d)
  | int {c : Sc} {m : Bool} {i : Int} {k : Nat} {pos : Pos} : CE c m (.Constant (.int i) k pos) (.con (.int i))
  | str {c : Sc} {m : Bool} {x : Str} {k : Nat} {pos : Pos} : CE c m (.Constant (.str x) k pos) (.con (.str x))
  | bl {c : Sc} {m : Bool} {b : Bool} {k : Nat} {pos : Pos} : CE c m (.Constant (.bool b) k pos) (.con (.bool b))
  | non {c : Sc} {m : Bool} {k : Nat} {pos : Pos} : CE c m (.Constant .none k pos) (.con .none)
  | bin {c : Sc} {m : Bool} {a b : Expr} {op : Operator} {x y : Ex} {pos : Pos} (h : CE c false a x) (g : CE c false b y) : CE c m (.BinOp a op b pos) (.bin m op x y)
  | neg {c : Sc} {m : Bool} {a : Expr} {x : Ex} {pos : Pos} (h : CE c false a x) : CE c m (.UnaryOp .USub a pos) (.neg x)
  | not {c : Sc} {m : Bool} {a : Expr} {x : Ex} {pos : Pos} (h : CE c false a x) : CE c m (.UnaryOp .Not a pos) (.not x)
  | one {c : Sc} {m : Bool} {op : BoolOp} {a : Expr} {x : Ex} {pos : Pos} (h : CE c false a x) : CE c m (.BoolOp op [a] pos) x
  | and {c : Sc} {m : Bool} {a b : Expr} {r : List Expr} {x y : Ex} {pos : Pos} (h : CE c false a x) (g : CE c false (.BoolOp .And (b :: r) pos) y) : CE c m (.BoolOp .And (a :: b :: r) pos) (.and x y)
  | or {c : Sc} {m : Bool} {a b : Expr} {r : List Expr} {x y : Ex} {pos : Pos} (h : CE c false a x) (g : CE c false (.BoolOp .Or (b :: r) pos) y) : CE c m (.BoolOp .Or (a :: b :: r) pos) (.or x y)
  | cmp {c : Sc} {m : Bool} {op : CmpOp} {a b : Expr} {x y : Ex} {pos : Pos} (h : CE c false a x) (g : CE c false b y) (hm : behindInMarks op b = false) : CE c m (.Compare a [op] [b] pos) (.cmp op x y)
  | cmp2 {c : Sc} {m : Bool} {op op2 : CmpOp} {a b d : Expr} {x y w : Ex} {pos : Pos} (h : CE c false a x) (g : CE c false b y) (i : CE c false d w) (hm : lastMarks [op, op2] [b, d] = false) :
      CE c m (.Compare a [op, op2] [b, d] pos) (.cmp2 op op2 x y w)
  | ite {c : Sc} {m : Bool} {t a b : Expr} {x y w : Ex} {pos : Pos} (h : CE c false t x) (g : CE c m a y) (i : CE c m b w) : CE c m (.IfExp t a b pos) (.ite x y w)
  | call {c : Sc} {m : Bool} {x : Str} {i : Nat} {p pos : Pos} {es : List Expr} {xs : Exs} (h : GlS c x) (e : c.fs[i]? = some x) (g : CEs c es xs) (pt : (i, es.length, [], []) ∈ c.pt) : CE c m (.Call (.Name x p) es [] pos) (.call i xs)
  | callk {c : Sc} {m : Bool} {x : Str} {i : Nat} {p pos : Pos} {es : List Expr} {ks : List Keyword} {ns : List Str} {perm : List Nat} {xs ys : Exs} (h : GlS c x) (e : c.fs[i]? = some x) (g : CEs c es xs) (gk : CKs c ks ns ys) (pt : (i, es.length, ns, perm) ∈ c.pt) :
      CE c m (.Call (.Name x p) es ks pos) (.callk i xs perm ys)
  | blt {c : Sc} {m : Bool} {x : Str} {f : Bf} {p pos : Pos} {e : Expr} {es : List Expr} {xs : Exs} (h : GlS c x) (hb : (bfFree f = true ∧ x = bfName f) ∨ c.ms.lookup x = some f) (hl : ∀ n, f = .list n → n = m) (g : CEs c (e :: es) xs) : CE c m (.Call (.Name x p) (e :: es) [] pos) (.blt f xs)
  | isi {c : Sc} {m : Bool} {t : Ty} {e : Expr} {x : Ex} {p p2 pos : Pos} (h : GlS c "isinstance") (h2 : GlS c (tyS t)) (g : CE c false e x) : CE c m (.Call (.Name "isinstance" p) [e, .Name (tyS t) p2] [] pos) (.isi x t)
  | idx {c : Sc} {m : Bool} {a b : Expr} {x y : Ex} {pos : Pos} (h : CE c false a x) (g : CE c false b y) : CE c m (.Subscript a b pos) (.idx x y)
  | sl {c : Sc} {m : Bool} {a : Expr} {lo hi : Option Expr} {x : Ex} {y w : Eo} {p2 pos : Pos} (h : CE c false a x) (g : CO c lo y) (i : CO c hi w) : CE c m (.Subscript a (.Slice lo hi none p2) pos) (.sl m x y w)
  | tup {c : Sc} {m : Bool} {es : List Expr} {k : Nat} {xs : Exs} {pos : Pos} (g : CEs c es xs) : CE c m (.Tuple es k pos) (.tup xs)
  | lst {c : Sc} {m : Bool} {es : List Expr} {xs : Exs} {pos : Pos} (g : CEs c es xs) : CE c m (.List es pos) (.lst m xs)
  | comp {c : Sc} {m : Bool} {elt tg iter : Expr} {ifs : List Expr} {scope : Scope} {own : List (Str × Nat)} {pos : Pos} {t : Tg} {it : Itr} {fs : Exs} {x : Ex} (ok : BlkOk c.N c.sc scope own) (hi : CI c tg iter it) (ht : CT (c.blk scope) tg t)
      (hw : t.within (own.map (·.2)) = true) (hf : CF (c.blk scope) ifs fs) (he : CE (c.blk scope) false elt x) (hs : notSet iter = true) : CE c m (.ListComp elt [⟨tg, iter, ifs, 0⟩] scope pos) (.comp m (own.map (·.2)) t it fs x)
  | meth {c : Sc} {m : Bool} {f : Mt} {o : Expr} {x : Ex} {es : List Expr} {xs : Exs} {apos pos : Pos} (hf : mtOk f = true) (h : CE c false o x) (g : CEs c es xs) (hl : (apos.endLine == pos.line) = true) (hc : notCall o = true) (hn : es.length < 20) : CE c m (.Call (.Attribute o (mtS f) apos) es [] pos) (.meth f x xs)
  | bits {c : Sc} {m : Bool} {o : Expr} {x : Ex} {apos pos : Pos} (h : CE c false o x) (hl : (apos.endLine == pos.line) = true) (hc : notCall o = true) : CE c m (.Call (.Attribute o "bit_length" apos) [] [] pos) (.op1 .bits x)
  | rev {c : Sc} {m : Bool} {a : Expr} {x : Ex} {k : Nat} {p1 p2 p3 pos : Pos} (h : CE c false a x) : CE c m (.Subscript a (.Slice none none (some (.UnaryOp .USub (.Constant (.int 1) k p1) p2)) p3) pos) (.op1 .rev x)
  | op2 {c : Sc} {m : Bool} {f : O2} {o e : Expr} {x y : Ex} {apos pos : Pos} (h : CE c false o x) (g : CE c false e y) (hl : (apos.endLine == pos.line) = true) (hc : notCall o = true) : CE c m (.Call (.Attribute o (o2S f) apos) [e] [] pos) (.op2 f x y)
  | comp2 {c : Sc} {m : Bool} {elt tg iter tg1 iter1 : Expr} {ifs ifs1 : List Expr} {scope : Scope} {own : List (Str × Nat)} {vs1 : List Nat} {pos : Pos} {t t1 : Tg} {it it1 : Itr} {fs fs1 : Exs} {x : Ex} (ok : BlkOk c.N c.sc scope own) (hi : CI c tg iter it) (ht : CT (c.blk scope) tg t)
      (hw : t.within (own.map (·.2)) = true) (hf : CF (c.blk scope) ifs fs) (hv : ∀ i ∈ vs1, i ∈ own.map (·.2)) (hi1 : CI (c.blk scope) tg1 iter1 it1) (ht1 : CT (c.blk scope) tg1 t1) (hw1 : t1.within vs1 = true) (hf1 : CF (c.blk scope) ifs1 fs1) (he : CE (c.blk scope) false elt x) (hs : notSet iter = true) (hs1 : notSet iter1 = true) :
      CE c m (.ListComp elt [⟨tg, iter, ifs, 0⟩, ⟨tg1, iter1, ifs1, 0⟩] scope pos) (.comp2 m (own.map (·.2)) t it fs vs1 t1 it1 fs1 x)
inductive CEs : Sc → List Expr → Exs → Prop
  | nil {c : Sc} : CEs c [] .nil
  | cons {c : Sc} {m : Bool} {e : Expr} {es : List Expr} {x : Ex} {xs : Exs} (h : CE c m e x) (g : CEs c es xs) : CEs c (e :: es) (.cons x xs)
inductive CKs : Sc → List Keyword → List Str → Exs → Prop
  | nil {c : Sc} : CKs c [] [] .nil
  | cons {c : Sc} {n : Str} {e : Expr} {p : Pos} {ks : List Keyword} {ns : List Str} {x : Ex} {xs : Exs} (h : CE c false e x) (g : CKs c ks ns xs) : CKs c (⟨some n, e, p⟩ :: ks) (n :: ns) (.cons x xs)
inductive CO : Sc → Option Expr → Eo → Prop
  | none {c : Sc} : CO c none .none
  | some {c : Sc} {e : Expr} {x : Ex} (h : CE c false e x) : CO c (some e) (.some x)
inductive CI : Sc → Expr → Expr → Itr → Prop
  | ex {c : Sc} {tg e : Expr} {x : Ex} (h : CE c false e x) : CI c tg e (.ex x)
  | range1 {c : Sc} {tg a : Expr} {x : Ex} {p pos : Pos} (g : GlS c "range") (h : CE c false a x) : CI c tg (.Call (.Name "range" p) [a] [] pos) (.range1 x)
  | range2 {c : Sc} {tg a b : Expr} {x y : Ex} {p pos : Pos} (g : GlS c "range") (h : CE c false a x) (h2 : CE c false b y) : CI c tg (.Call (.Name "range" p) [a, b] [] pos) (.range2 x y)
  | enum {c : Sc} {es : List Expr} {kk : Nat} {a : Expr} {x : Ex} {p pos tpos : Pos} (g : GlS c "enumerate") (h : CE c false a x) : CI c (.Tuple es kk tpos) (.Call (.Name "enumerate" p) [a] [] pos) (.enum x)
  | zip {c : Sc} {es : List Expr} {kk : Nat} {a b : Expr} {x y : Ex} {p pos tpos : Pos} (g : GlS c "zip") (h : CE c false a x) (h2 : CE c false b y) : CI c (.Tuple es kk tpos) (.Call (.Name "zip" p) [a, b] [] pos) (.zip x y)
  | zip3 {c : Sc} {es : List Expr} {kk : Nat} {a b d : Expr} {x y w : Ex} {p pos tpos : Pos} (g : GlS c "zip") (h : CE c false a x) (h2 : CE c false b y) (h3 : CE c false d w) : CI c (.Tuple es kk tpos) (.Call (.Name "zip" p) [a, b, d] [] pos) (.zip3 x y w)
  | rev {c : Sc} {tg a : Expr} {x : Ex} {p pos : Pos} (g : GlS c "reversed") (h : CE c false a x) : CI c tg (.Call (.Name "reversed" p) [a] [] pos) (.rev x)
inductive CT : Sc → Expr → Tg → Prop
  | name {c : Sc} {x : Str} {i : Nat} {pos : Pos} (h : c.N[i]? = some x) (l : Loc c.sc x) (f : c.fn x = true ∨ c.sc.names.lookup x = some .local) : CT c (.Name x pos) (.name i)
  | sub {c : Sc} {o i : Expr} {x y : Ex} {pos : Pos} (h : CE c false o x) (g : CE c false i y) (hs : notSlice i = true) : CT c (.Subscript o i pos) (.sub x y)
  | tup {c : Sc} {es : List Expr} {k : Nat} {ts : Tgs} {pos : Pos} (g : CTs c es ts) : CT c (.Tuple es k pos) (.tup ts)
inductive CTs : Sc → List Expr → Tgs → Prop
  | nil {c : Sc} : CTs c [] .nil
  | cons {c : Sc} {e : Expr} {es : List Expr} {t : Tg} {ts : Tgs} (h : CT c e t) (g : CTs c es ts) : CTs c (e :: es) (.cons t ts)
inductive CF : Sc → List Expr → Exs → Prop
  | nil {c : Sc} : CF c [] .nil
  | one {c : Sc} {e : Expr} {x : Ex} (h : CE c false e x) : CF c [e] (.cons x .nil)
end

/-! ### the readings that ask least -/
section
variable (X : Cx)
def wE (e : Expr) : TE := fun σ H Q => ∀ (pins : List (Addr × Obj)) (s : Shared), Inv X pins σ H s → wpAny (model X.prog X.w) X.A (eval e X.env) (EP X pins σ Q) X.xe s
def wT (e : Expr) : TT := fun σ H Q => ∀ (pins : List (Addr × Obj)) (s : Shared), Inv X pins σ H s → wpAny (model X.prog X.w) X.A (isTrue e X.env (eval e X.env)) (TP X pins σ Q) X.xe s
def wA (es : List Expr) : TA := fun σ H Q => ∀ (pos : Pos) (pins : List (Addr × Obj)) (s : Shared), Inv X pins σ H s → wpAny (model X.prog X.w) X.A (spliced (backTo pos (starEach es X.env))) (AP X pins σ Q) X.xe s
def wKs (kws : List Keyword) : TA := fun σ H Q => ∀ (pos : Pos) (pins : List (Addr × Obj)) (s : Shared), Inv X pins σ H s → wpAny (model X.prog X.w) X.A (evalAll ((backToKw pos (keywordEach kws X.env)).map (·.2))) (AP X pins σ Q) X.xe s
def wOp (e : Option Expr) : TO := fun σ H Q => ∀ (pins : List (Addr × Obj)) (s : Shared), Inv X pins σ H s → wpAny (model X.prog X.w) X.A (evalPart e X.env) (fun u s' => ∃ o H', Inv X pins σ H' s' ∧ IsPart u o ∧ Q o H') X.xe s
def wI (tg iter : Expr) : TI := fun σ H R => ∀ (pins : List (Addr × Obj)) (s : Shared), Inv X pins σ H s →
  wpAny (model X.prog X.w) X.A (eval iter X.env) (fun v s1 => wpAny (model X.prog X.w) X.A (pyIter v) (PIE X pins σ tg R) X.xe s1) X.xe s
def wG (t : Expr) : TG := fun v σ H Q => ∀ (pins : List (Addr × Obj)) (s : Shared) (u : Value), Inv X pins σ H s → RelV v u → wpAny (model X.prog X.w) X.A (assign t X.env u) (fun _ s' => ∃ σ' H', Inv X pins σ' H' s' ∧ Q σ' H') X.xe s
def wGs (ts : List Expr) : TGs := fun vs σ H Q => ∀ (pins : List (Addr × Obj)) (s : Shared) (us : List Value), Inv X pins σ H s → Vals vs us → wpAny (model X.prog X.w) X.A (assignInOrder ((assignEach ts X.env).map (·.2)) us) (fun _ s' => ∃ σ' H', Inv X pins σ' H' s' ∧ Q σ' H') X.xe s
def wFs (ifs : List Expr) : TT := fun σ H Q => ∀ (pins : List (Addr × Obj)) (s : Shared), Inv X pins σ H s →
  wpAny (model X.prog X.w) X.A (forIn ifs true fun c r => if r = true then do let ok ← isTrue c X.env (eval c X.env); pure (ForInStep.yield ok) else pure (ForInStep.yield r)) (TP X pins σ Q) X.xe s
end
section
variable {X : Cx} {σ : L2.St} {H : Hp}
theorem pe_q {e : Expr} : PE X e (wE X e) := ⟨fun pins s σ H Q I h => h pins s I⟩
theorem pt_q {e : Expr} : PT X e (wT X e) := ⟨fun pins s σ H Q I h => h pins s I⟩
theorem pa_q {es : List Expr} : PA X es (wA X es) := ⟨fun pos pins s σ H Q I h => h pos pins s I⟩
theorem pk_q {ks : List Keyword} : PK X ks (wKs X ks) := ⟨fun pos pins s σ H Q I h => h pos pins s I⟩
theorem po_q {e : Option Expr} : PO X e (wOp X e) := ⟨fun pins s σ H Q I h => h pins s I⟩
theorem pi_q {t i : Expr} : PI X t i (wI X t i) := ⟨fun pins s σ H R I h => h pins s I⟩
theorem pg_q {t : Expr} : PG X t (wG X t) := ⟨fun pins s σ H v u Q I r h => h pins s u I r⟩
theorem pgs_q {ts : List Expr} : PGs X ts (wGs X ts) := ⟨fun pins s σ H vs us Q I r h => h pins s us I r⟩
theorem pts_q {ifs : List Expr} : PTs X ifs (wFs X ifs) := ⟨fun pins s σ H Q I h => h pins s I⟩
theorem PE.use {e : Expr} {t : TE} (h : PE X e t) {Q : VK} (q : t σ H Q) : wE X e σ H Q := fun pins s I => h.run pins s σ H Q I q
theorem PT.use {e : Expr} {t : TT} (h : PT X e t) {Q : Bool → Hp → Prop} (q : t σ H Q) : wT X e σ H Q := fun pins s I => h.run pins s σ H Q I q
theorem PA.use {es : List Expr} {t : TA} (h : PA X es t) {Q : List V → Hp → Prop} (q : t σ H Q) : wA X es σ H Q := fun pos pins s I => h.run pos pins s σ H Q I q
theorem PK.use {es : List Keyword} {t : TA} (h : PK X es t) {Q : List V → Hp → Prop} (q : t σ H Q) : wKs X es σ H Q := fun pos pins s I => h.run pos pins s σ H Q I q
theorem PO.use {e : Option Expr} {t : TO} (h : PO X e t) {Q : Option Int → Hp → Prop} (q : t σ H Q) : wOp X e σ H Q := fun pins s I => h.run pins s σ H Q I q
theorem PI.use {tg i : Expr} {t : TI} (h : PI X tg i t) {Q : It → Hp → Prop} (q : t σ H Q) : wI X tg i σ H Q := fun pins s I => h.run pins s σ H Q I q
theorem PG.use {e : Expr} {t : TG} (h : PG X e t) {v : V} {Q : L2.St → Hp → Prop} (q : t v σ H Q) : wG X e v σ H Q := fun pins s u I r => h.run pins s σ H v u Q I r q
theorem PGs.use {e : List Expr} {t : TGs} (h : PGs X e t) {v : List V} {Q : L2.St → Hp → Prop} (q : t v σ H Q) : wGs X e v σ H Q := fun pins s u I r => h.run pins s σ H v u Q I r q
theorem PTs.use {e : List Expr} {t : TT} (h : PTs X e t) {Q : Bool → Hp → Prop} (q : t σ H Q) : wFs X e σ H Q := fun pins s I => h.run pins s σ H Q I q
end

/-! ### what stands around -/
structure Bs where
  P : Program
  w : World
  K : PySem.W.Frag
  mg : Str → Option Value
  base : Heap
structure Of (B : Bs) (X : Cx) : Prop where
  P : X.prog = B.P
  w : X.w = B.w
  K : X.K = B.K
  mg : X.mg = B.mg
  base : X.base = B.base
def wK (X : Cx) (f : Value) (ks : List Str) (vs zs : List V) (H : Hp) (Q : VK) : Prop :=
  ∀ (pins : List (Addr × Obj)) (s : Shared) (σ : L2.St) (us ws : List Value), Inv X pins σ H s → Vals vs us → Vals zs ws → wpAny (model X.prog X.w) X.A (PySem.call f us (ks.zip ws)) (EP X pins σ Q) X.xe s
/-- the calls of the defs, at level k -/
def CallsW (B : Bs) (k : Nat) (c : Sc) (C : Calls) : Prop :=
  ∀ (i n : Nat) (ks : List Str) (perm : List Nat) (x : Str), (i, n, ks, perm) ∈ c.pt → c.fs[i]? = some x → ∃ a, B.mg x = some (.ref a) ∧ PySem.W.keepIn B.K (.ref a) = true ∧
    ∀ (X : Cx), Of B X → Gd X → Room k X.A → ∀ (us kv : List U) (S S' : Sto) (u : U) (z : Rz) (H : Hp) (vs zs : List V) (Q : VK), us.length = n → kv.length = ks.length → C i (permU us perm kv) S = .ok u S' → SO X.K z H S → RUs X.K z H us vs → RUs X.K z H kv zs →
      Aft X.K z H S' u Q → wK X (.ref a) ks vs zs H Q
structure GlOk (B : Bs) (c : Sc) : Prop where
  cs : ∀ x d, c.cs.lookup x = some d → ∃ u v, B.mg x = some u ∧ RelV v u ∧ Rp B.K (fun _ => none) v d
  ms : ∀ x f, c.ms.lookup x = some f → B.mg x = some (bfV f) ∧ ∃ id, bfV f = .builtin id
  bl : ∀ x, x ∈ ["len", "all", "any", "tuple", "list", "abs", "min", "max", "int", "repr", "sum", "divmod", "bool", "isinstance", "str", "range", "enumerate", "zip", "reversed"].map Str.ofString → B.mg x = none
/-- a context in which the block c runs -/
structure Cw (B : Bs) (k : Nat) (c : Sc) (C : Calls) (X : Cx) : Prop where
  of : Of B X
  gd : Gd X
  room : Room k X.A
  nN : X.N = c.N
  nd : X.N.Nodup
  sc : X.env.scope = c.sc
  fn : X.fn = c.fn
  gl : GlOk B c
  call : CallsW B k c C
def EnvOk (K : PySem.W.Frag) (z : Rz) (H : Hp) (env : Env) (σ : L2.St) : Prop := env.length = σ.length ∧ ∀ (i : Nat) (u : U), env[i]? = some (some u) → ∃ v, σ[i]? = some (some v) ∧ RU K z H u v
end Ev

/-! Ev4: an expression's run is its evaluation. -/
namespace Ev
open PySem PySem.Spec PyProof.Rows L2

/-! ### the environment -/
section
variable {K : PySem.W.Frag} {z z' : Rz} {H H' : Hp} {env : Env} {σ : L2.St}
theorem EnvOk.grow (g : Grow z H z' H') (h : EnvOk K z H env σ) : EnvOk K z' H' env σ := ⟨h.1, fun i u e => let ⟨v, h1, h2⟩ := h.2 i u e; ⟨v, h1, h2.grow g⟩⟩
theorem EnvOk.mono (g : Ext z H z' H') (h : EnvOk K z H env σ) : EnvOk K z' H' env σ := h.grow g.grow
theorem EnvOk.set (h : EnvOk K z H env σ) {i : Nat} {u : U} {v : V} (r : RU K z H u v) : EnvOk K z H (env.set i (some u)) (σ.set i (some v)) := by
  refine ⟨by rw [List.length_set, List.length_set]; exact h.1, fun j w e => ?_⟩
  by_cases c : i = j
  · subst c
    by_cases hl : i < env.length
    · rw [List.getElem?_set_self hl] at e
      cases e
      exact ⟨v, by rw [List.getElem?_set_self (by rw [← h.1]; exact hl)], r⟩
    · rw [List.getElem?_eq_none (by simp; omega)] at e
      cases e
  · rw [List.getElem?_set_ne c] at e
    obtain ⟨v', h1, h2⟩ := h.2 j w e
    exact ⟨v', by rw [List.getElem?_set_ne c]; exact h1, h2⟩
theorem wipeE_length (env : Env) : ∀ vs : List Nat, (wipeE env vs).length = env.length
  | [] => rfl
  | v :: vs => by unfold wipeE; rw [List.length_set, wipeE_length env vs]
theorem EnvOk.wipe (h : EnvOk K z H env σ) : ∀ vs : List Nat, EnvOk K z H (wipeE env vs) (wipe σ vs)
  | [] => h
  | n :: vs => by
    have ih := EnvOk.wipe h vs
    refine ⟨by rw [wipeE_length, wipe_length]; exact h.1, fun i u e => ?_⟩
    unfold wipeE at e
    by_cases c : n = i
    · subst c
      by_cases hl : n < (wipeE env vs).length
      · rw [List.getElem?_set_self hl] at e; cases e
      · rw [List.getElem?_eq_none (by simp; omega)] at e; cases e
    · rw [List.getElem?_set_ne c] at e
      obtain ⟨v, h1, h2⟩ := ih.2 i u e
      refine ⟨v, ?_, h2⟩
      unfold L2.wipe
      rw [List.getElem?_set_ne c]
      exact h1
theorem wipe_set {σ : L2.St} {i : Nat} {v : Option V} : ∀ {own : List Nat}, i ∈ own → wipe (σ.set i v) own = wipe σ own
  | [], h => by cases h
  | n :: own, h => by
    unfold wipe
    by_cases c : i = n
    · subst c
      have key : ∀ l : List Nat, (wipe (σ.set i v) l).set i none = (wipe σ l).set i none := fun l => by
        induction l with
        | nil => simp [wipe]
        | cons m l ih =>
          unfold wipe
          by_cases d : m = i
          · subst d; rw [List.set_set, List.set_set]; exact ih
          · rw [List.set_comm _ _ d, List.set_comm _ _ d, ih]
      exact key own
    · rcases List.mem_cons.mp h with e | e
      · exact absurd e c
      · rw [wipe_set e]
end

/-! ### what is walked -/
def ItOk (K : PySem.W.Frag) (z : Rz) (H : Hp) (src : Src) (J : It) : Prop := ∀ (z2 : Rz) (H2 : Hp) (S2 : Sto), Grow z H z2 H2 → SO K z2 H2 S2 → still src.2 S2 →
  (∀ (i : Nat) (d : D), src.1[i]? = some d → J.go i H2 ∧ ∀ x H3, J.yld i H2 x H3 → Ext z2 H2 z2 H3 ∧ SO K z2 H3 S2 ∧ Rp K (Im z2 H3) x d) ∧ J.stop src.1.length H2
theorem itl_ok {K : PySem.W.Frag} {z : Rz} {H : Hp} {xs : List D} {ls : List (Nat × List D)} {a : Addr}
    (h : ∀ (z2 : Rz) (H2 : Hp) (S2 : Sto), Grow z H z2 H2 → SO K z2 H2 S2 → still ls S2 → ∃ vs, SqL K H2 a vs ∧ RpAll K (Im z2 H2) vs xs) : ItOk K z H (xs, ls) (Itl K a) := fun z2 H2 S2 g so st => by
  obtain ⟨vs, h1, h2⟩ := h z2 H2 S2 g so st
  refine ⟨fun i d e => ?_, vs, h1, by rw [h2.length]; exact Nat.le_refl _⟩
  obtain ⟨v, h3, h4⟩ := h2.get e
  refine ⟨⟨vs, v, h1, h3⟩, fun x H3 y => ?_⟩
  obtain ⟨rfl, y⟩ := y
  have e2 := y vs h1
  rw [h3] at e2
  cases e2
  exact ⟨Ext.refl, so, h4⟩
theorem itt_ok {K : PySem.W.Frag} {z : Rz} {H : Hp} {xs : List D} {ls : List (Nat × List D)} {a : Addr} {vs : List V} (h1 : SqT K (Im z H) a vs) (h2 : RpAll K (Im z H) vs xs) : ItOk K z H (xs, ls) (Itt K a) := fun z2 H2 S2 g so st => by
  have h1 := Im.le.sqT (g.im.sqT h1)
  have h2 := RpAll.mono g.im _ _ h2
  refine ⟨fun i d e => ?_, vs, h1, by rw [h2.length]; exact Nat.le_refl _⟩
  obtain ⟨v, h3, h4⟩ := h2.get e
  refine ⟨⟨vs, v, h1, h3⟩, fun x H3 y => ?_⟩
  obtain ⟨rfl, y⟩ := y
  have e2 := y vs h1
  rw [h3] at e2
  cases e2
  exact ⟨Ext.refl, so, h4⟩
theorem itr_ok {K : PySem.W.Frag} {z : Rz} {H : Hp} {lo : Int} {n : Nat} {ls : List (Nat × List D)} : ItOk K z H (intsD lo n, ls) (L2.Itr lo n) := fun z2 H2 S2 g so st => by
  have hl : (intsD lo n).length = n := by simp [intsD]
  refine ⟨fun i d e => ?_, by show n ≤ (intsD lo n).length; omega⟩
  have hi : i < n := by
    have h0 : i < (intsD lo n).length := (List.getElem?_eq_some_iff.mp e).1
    omega
  refine ⟨hi, fun x H3 y => ?_⟩
  obtain ⟨rfl, rfl⟩ := y
  have ed : d = .int (lo + (i : Int)) := by
    have e' : ((List.range n).map fun (k : Nat) => PyData.int (lo + (k : Int)))[i]? = some d := e
    rw [List.getElem?_map, List.getElem?_range hi] at e'
    exact (Option.some.inj e').symm
  rw [ed]
  exact ⟨Ext.refl, so, .int _⟩

/-- a new pair -/
theorem pair_ok {K : PySem.W.Frag} {z : Rz} {H : Hp} {S : Sto} {T : Addr} {u v : V} {c d : D} (so : SO K z H S) (hT : H T = none) (r1 : Rp K (Im z H) u c) (r2 : Rp K (Im z H) v d) :
    Ext z H z (upd H T (.tup [u, v])) ∧ SO K z (upd H T (.tup [u, v])) S ∧ Rp K (Im z (upd H T (.tup [u, v]))) (.ref T) (.tuple [c, d]) := by
  have x : Ext z H z (upd H T (.tup [u, v])) := Ext.new hT
  exact ⟨x, so.new hT, .tup (.inl (.inl (Im.mk upd_same (so.nohas hT)))) (.cons (Rp.mono x.im _ _ r1) (.cons (Rp.mono x.im _ _ r2) .nil))⟩
theorem ite_ok {K : PySem.W.Frag} {z : Rz} {H : Hp} {xs : List D} {ls : List (Nat × List D)} {a : Addr}
    (h : ∀ (z2 : Rz) (H2 : Hp) (S2 : Sto), Grow z H z2 H2 → SO K z2 H2 S2 → still ls S2 → ∃ vs, SqL K H2 a vs ∧ RpAll K (Im z2 H2) vs xs) : ItOk K z H (enumD xs, ls) (L2.Ite K a) := fun z2 H2 S2 g so st => by
  obtain ⟨vs, h1, h2⟩ := h z2 H2 S2 g so st
  have hl : (enumD xs).length = xs.length := by simp [enumD]
  refine ⟨fun i d e => ?_, vs, h1, by rw [h2.length, hl]; exact Nat.le_refl _⟩
  have hi : i < xs.length := by rw [← hl]; exact (List.getElem?_eq_some_iff.mp e).1
  obtain ⟨d0, e0⟩ : ∃ d0, xs[i]? = some d0 := ⟨_, List.getElem?_eq_getElem hi⟩
  have ed : d = .tuple [.int (i : Int), d0] := by
    have e' : ((List.range xs.length).zipWith (fun (i : Nat) (d : D) => PyData.tuple [.int (i : Int), d]) xs)[i]? = some d := e
    rw [List.getElem?_zipWith, List.getElem?_range hi, e0] at e'
    exact (Option.some.inj e').symm
  subst ed
  obtain ⟨v, h3, h4⟩ := h2.get e0
  refine ⟨⟨vs, v, h1, h3⟩, fun x H3 y => ?_⟩
  obtain ⟨T, w, rfl, hT, rfl, y⟩ := y
  have e2 := y vs h1
  rw [h3] at e2
  cases e2
  exact pair_ok so hT (.int _) h4
theorem iteT_ok {K : PySem.W.Frag} {z : Rz} {H : Hp} {xs : List D} {a : Addr} {vs : List V} (h1 : SqT K (Im z H) a vs) (h2 : RpAll K (Im z H) vs xs) : ItOk K z H (enumD xs, []) (EvT.IteT K a) := fun z2 H2 S2 g so st => by
  have h1 := Im.le.sqT (g.im.sqT h1)
  have h2 := RpAll.mono g.im _ _ h2
  have hl : (enumD xs).length = xs.length := by simp [enumD]
  refine ⟨fun i d e => ?_, vs, h1, by rw [h2.length, hl]⟩
  have hi : i < xs.length := by rw [← hl]; exact (List.getElem?_eq_some_iff.mp e).1
  obtain ⟨d0, e0⟩ : ∃ d0, xs[i]? = some d0 := ⟨_, List.getElem?_eq_getElem hi⟩
  have ed : d = .tuple [.int (i : Int), d0] := by
    have e' : ((List.range xs.length).zipWith (fun (i : Nat) (d : D) => PyData.tuple [.int (i : Int), d]) xs)[i]? = some d := e
    rw [List.getElem?_zipWith, List.getElem?_range hi, e0] at e'
    exact (Option.some.inj e').symm
  subst ed
  obtain ⟨v, h3, h4⟩ := h2.get e0
  refine ⟨⟨vs, v, h1, h3⟩, fun x H3 y => ?_⟩
  obtain ⟨T, w, rfl, hT, rfl, y⟩ := y
  have e2 := y vs h1
  rw [h3] at e2
  cases e2
  exact pair_ok so hT (.int _) h4
theorem zip3_get : ∀ {xs ys zs : List D} {i : Nat} {d : D}, (zip3D xs ys zs)[i]? = some d → ∃ a b c, xs[i]? = some a ∧ ys[i]? = some b ∧ zs[i]? = some c ∧ d = .tuple [a, b, c]
  | x :: xs, y :: ys, z :: zs, 0, d, e => ⟨x, y, z, rfl, rfl, rfl, (Option.some.inj e).symm⟩
  | x :: xs, y :: ys, z :: zs, i + 1, d, e => zip3_get (xs := xs) (ys := ys) (zs := zs) (i := i) e
  | [], _, _, i, d, e => by cases e
  | _ :: _, [], _, i, d, e => by cases e
  | _ :: _, _ :: _, [], i, d, e => by cases e
theorem zip3_len : ∀ (xs ys zs : List D), (zip3D xs ys zs).length ≤ xs.length ∧ (zip3D xs ys zs).length ≤ ys.length ∧ (zip3D xs ys zs).length ≤ zs.length ∧ ((zip3D xs ys zs).length = xs.length ∨ (zip3D xs ys zs).length = ys.length ∨ (zip3D xs ys zs).length = zs.length)
  | x :: xs, y :: ys, z :: zs => by
    have := zip3_len xs ys zs
    simp only [zip3D, List.length_cons]
    omega
  | [], _, _ => by simp [zip3D]
  | _ :: _, [], _ => by simp [zip3D]
  | _ :: _, _ :: _, [] => by simp [zip3D]
theorem itz3_ok {K : PySem.W.Frag} {z : Rz} {H : Hp} {xs ys zs : List D} {a b c : Addr} {vs ws us : List V} (h1 : SqT K (Im z H) a vs) (h2 : RpAll K (Im z H) vs xs) (k1 : SqT K (Im z H) b ws) (k2 : RpAll K (Im z H) ws ys) (l1 : SqT K (Im z H) c us) (l2 : RpAll K (Im z H) us zs) : ItOk K z H (zip3D xs ys zs, []) (EvT.Itz3 K a b c) := fun z2 H2 S2 g so st => by
  have h1 := Im.le.sqT (g.im.sqT h1)
  have h2 := RpAll.mono g.im _ _ h2
  have k1 := Im.le.sqT (g.im.sqT k1)
  have k2 := RpAll.mono g.im _ _ k2
  have l1 := Im.le.sqT (g.im.sqT l1)
  have l2 := RpAll.mono g.im _ _ l2
  refine ⟨fun i d e => ?_, vs, ws, us, h1, k1, l1, ?_⟩
  · obtain ⟨c1, c2, c3, e1, e2, e3, rfl⟩ := zip3_get e
    obtain ⟨v, h3, h4⟩ := h2.get e1
    obtain ⟨w, k3, k4⟩ := k2.get e2
    obtain ⟨u, l3, l4⟩ := l2.get e3
    refine ⟨⟨vs, ws, us, v, w, u, h1, k1, l1, h3, k3, l3⟩, fun x H3 y => ?_⟩
    obtain ⟨T, v2, w2, u2, rfl, hT, rfl, y1, y2, y3⟩ := y
    have q1 := y1 vs h1
    have q2 := y2 ws k1
    have q3 := y3 us l1
    rw [h3] at q1
    rw [k3] at q2
    rw [l3] at q3
    cases q1
    cases q2
    cases q3
    have x : Ext z2 H2 z2 (upd H2 T (.tup [v, w, u])) := Ext.new hT
    exact ⟨x, so.new hT, .tup (.inl (.inl (Im.mk upd_same (so.nohas hT)))) (.cons (Rp.mono x.im _ _ h4) (.cons (Rp.mono x.im _ _ k4) (.cons (Rp.mono x.im _ _ l4) .nil)))⟩
  · have := zip3_len xs ys zs
    rw [h2.length, k2.length, l2.length]
    exact this
theorem zip_get {xs ys : List D} {i : Nat} {d : D} (e : (zipD xs ys)[i]? = some d) : ∃ a b, xs[i]? = some a ∧ ys[i]? = some b ∧ d = .tuple [a, b] := by
  unfold zipD at e
  rw [List.getElem?_zipWith] at e
  cases h1 : xs[i]? with
  | none => rw [h1] at e; simp at e
  | some a =>
    cases h2 : ys[i]? with
    | none => rw [h1, h2] at e; simp at e
    | some b => rw [h1, h2] at e; exact ⟨a, b, rfl, rfl, (Option.some.inj e).symm⟩
theorem itz_ok {K : PySem.W.Frag} {z : Rz} {H : Hp} {xs ys : List D} {ls ms : List (Nat × List D)} {a b : Addr}
    (h : ∀ (z2 : Rz) (H2 : Hp) (S2 : Sto), Grow z H z2 H2 → SO K z2 H2 S2 → still ls S2 → ∃ vs, SqL K H2 a vs ∧ RpAll K (Im z2 H2) vs xs)
    (k : ∀ (z2 : Rz) (H2 : Hp) (S2 : Sto), Grow z H z2 H2 → SO K z2 H2 S2 → still ms S2 → ∃ vs, SqL K H2 b vs ∧ RpAll K (Im z2 H2) vs ys) : ItOk K z H (zipD xs ys, ls ++ ms) (L2.Itz K a b) := fun z2 H2 S2 g so st => by
  obtain ⟨vs, h1, h2⟩ := h z2 H2 S2 g so fun p hp => st p (List.mem_append_left _ hp)
  obtain ⟨ws, k1, k2⟩ := k z2 H2 S2 g so fun p hp => st p (List.mem_append_right _ hp)
  refine ⟨fun i d e => ?_, vs, ws, h1, k1, ?_⟩
  · obtain ⟨c, d, e1, e2, rfl⟩ := zip_get e
    obtain ⟨v, h3, h4⟩ := h2.get e1
    obtain ⟨w, k3, k4⟩ := k2.get e2
    refine ⟨⟨vs, ws, v, w, h1, k1, h3, k3⟩, fun x H3 y => ?_⟩
    obtain ⟨T, v2, w2, rfl, hT, rfl, y1, y2⟩ := y
    have q1 := y1 vs h1
    have q2 := y2 ws k1
    rw [h3] at q1
    rw [k3] at q2
    cases q1
    cases q2
    exact pair_ok so hT h4 k4
  · rw [h2.length, k2.length]
    show xs.length ≤ (zipD xs ys).length ∨ ys.length ≤ (zipD xs ys).length
    unfold zipD
    rw [List.length_zipWith]
    omega
theorem itzT_ok {K : PySem.W.Frag} {z : Rz} {H : Hp} {xs ys : List D} {a b : Addr} {vs ws : List V} (h1 : SqT K (Im z H) a vs) (h2 : RpAll K (Im z H) vs xs) (k1 : SqT K (Im z H) b ws) (k2 : RpAll K (Im z H) ws ys) : ItOk K z H (zipD xs ys, []) (RZ.ItzT K a b) := fun z2 H2 S2 g so st => by
  have h1 := Im.le.sqT (g.im.sqT h1)
  have h2 := RpAll.mono g.im _ _ h2
  have k1 := Im.le.sqT (g.im.sqT k1)
  have k2 := RpAll.mono g.im _ _ k2
  refine ⟨fun i d e => ?_, vs, ws, h1, k1, ?_⟩
  · obtain ⟨c, d, e1, e2, rfl⟩ := zip_get e
    obtain ⟨v, h3, h4⟩ := h2.get e1
    obtain ⟨w, k3, k4⟩ := k2.get e2
    refine ⟨⟨vs, ws, v, w, h1, k1, h3, k3⟩, fun x H3 y => ?_⟩
    obtain ⟨T, v2, w2, rfl, hT, rfl, y1, y2⟩ := y
    have q1 := y1 vs h1
    have q2 := y2 ws k1
    rw [h3] at q1
    rw [k3] at q2
    cases q1
    cases q2
    exact pair_ok so hT h4 k4
  · rw [h2.length, k2.length]
    show xs.length ≤ (zipD xs ys).length ∨ ys.length ≤ (zipD xs ys).length
    unfold zipD
    rw [List.length_zipWith]
    omega
theorem rev_get {α : Type} {xs : List α} {i : Nat} {d : α} (e : xs.reverse[i]? = some d) : i < xs.length ∧ xs[xs.length - 1 - i]? = some d := by
  have hi : i < xs.length := by rw [← List.length_reverse]; exact (List.getElem?_eq_some_iff.mp e).1
  rw [List.getElem?_reverse hi] at e
  exact ⟨hi, e⟩
theorem itv_ok {K : PySem.W.Frag} {z : Rz} {H : Hp} {xs : List D} {ls : List (Nat × List D)} {a : Addr} {n : Nat} (hn : n = xs.length)
    (h : ∀ (z2 : Rz) (H2 : Hp) (S2 : Sto), Grow z H z2 H2 → SO K z2 H2 S2 → still ls S2 → ∃ vs, SqL K H2 a vs ∧ RpAll K (Im z2 H2) vs xs) : ItOk K z H (xs.reverse, ls) (L2.Itv K a n) := fun z2 H2 S2 g so st => by
  subst hn
  obtain ⟨vs, h1, h2⟩ := h z2 H2 S2 g so st
  refine ⟨fun i d e => ?_, by show xs.length ≤ xs.reverse.length; simp⟩
  obtain ⟨hi, e1⟩ := rev_get e
  obtain ⟨v, h3, h4⟩ := h2.get e1
  refine ⟨⟨hi, vs, v, h1, h3⟩, fun x H3 y => ?_⟩
  obtain ⟨rfl, y⟩ := y
  have e2 := y vs h1
  rw [h3] at e2
  cases e2
  exact ⟨Ext.refl, so, h4⟩
theorem itvT_ok {K : PySem.W.Frag} {z : Rz} {H : Hp} {xs : List D} {a : Addr} {vs : List V} {n : Nat} (hn : n = xs.length) (h1 : SqT K (Im z H) a vs) (h2 : RpAll K (Im z H) vs xs) : ItOk K z H (xs.reverse, []) (RT.ItvT K a n) := fun z2 H2 S2 g so st => by
  subst hn
  have h1 := Im.le.sqT (g.im.sqT h1)
  have h2 := RpAll.mono g.im _ _ h2
  refine ⟨fun i d e => ?_, by show xs.length ≤ xs.reverse.length; simp⟩
  obtain ⟨hi, e1⟩ := rev_get e
  obtain ⟨v, h3, h4⟩ := h2.get e1
  refine ⟨⟨hi, vs, v, h1, h3⟩, fun x H3 y => ?_⟩
  obtain ⟨rfl, y⟩ := y
  have e2 := y vs h1
  rw [h3] at e2
  cases e2
  exact ⟨Ext.refl, so, h4⟩

/-! ### what is claimed -/
section
variable (B : Bs) (k : Nat)
def SndE (c : Sc) (e : Expr) (x : Ex) : Prop := ∀ (C : Calls) (X : Cx), Cw B k c C X → ∀ (env : Env) (S S' : Sto) (u : U) (z : Rz) (σ : L2.St) (H : Hp) (Q : VK), evE x C env S = .ok u S' → EnvOk X.K z H env σ → SO X.K z H S → Aft X.K z H S' u Q → wE X e σ H Q
def SndT (c : Sc) (e : Expr) (x : Ex) : Prop := ∀ (C : Calls) (X : Cx), Cw B k c C X → ∀ (env : Env) (S S' : Sto) (b : Bool) (z : Rz) (σ : L2.St) (H : Hp) (Q : Bool → Hp → Prop), evT x C env S = .ok b S' → EnvOk X.K z H env σ → SO X.K z H S →
  (∀ z' H', Ext z H z' H' → SO X.K z' H' S' → Q b H') → wT X e σ H Q
def SndA (c : Sc) (es : List Expr) (xs : Exs) : Prop := ∀ (C : Calls) (X : Cx), Cw B k c C X → ∀ (env : Env) (S S' : Sto) (us : List U) (z : Rz) (σ : L2.St) (H : Hp) (Q : List V → Hp → Prop), evEs xs C env S = .ok us S' → EnvOk X.K z H env σ → SO X.K z H S →
  (∀ z' H' vs, Ext z H z' H' → SO X.K z' H' S' → RUs X.K z' H' us vs → Q vs H') → wA X es σ H Q
def SndK (c : Sc) (es : List Keyword) (ns : List Str) (xs : Exs) : Prop := ∀ (C : Calls) (X : Cx), Cw B k c C X → ∀ (env : Env) (S S' : Sto) (us : List U) (z : Rz) (σ : L2.St) (H : Hp) (Q : List V → Hp → Prop), evEs xs C env S = .ok us S' → EnvOk X.K z H env σ → SO X.K z H S →
  (∀ z' H' vs, Ext z H z' H' → SO X.K z' H' S' → RUs X.K z' H' us vs → us.length = ns.length → Q vs H') → wKs X es σ H Q
def SndO (c : Sc) (e : Option Expr) (x : Eo) : Prop := ∀ (C : Calls) (X : Cx), Cw B k c C X → ∀ (env : Env) (S S' : Sto) (o : Option Int) (z : Rz) (σ : L2.St) (H : Hp) (Q : Option Int → Hp → Prop), evO x C env S = .ok o S' → EnvOk X.K z H env σ → SO X.K z H S →
  (∀ z' H', Ext z H z' H' → SO X.K z' H' S' → Q o H') → wOp X e σ H Q
def SndI (c : Sc) (tg e : Expr) (x : Itr) : Prop := ∀ (C : Calls) (X : Cx), Cw B k c C X → ∀ (env : Env) (S S' : Sto) (src : Src) (z : Rz) (σ : L2.St) (H : Hp) (R : It → Hp → Prop), evI x C env S = .ok src S' → EnvOk X.K z H env σ → SO X.K z H S →
  (∀ z' H' J, Ext z H z' H' → SO X.K z' H' S' → ItOk X.K z' H' src J → R J H') → wI X tg e σ H R
def SndG (c : Sc) (e : Expr) (t : Tg) : Prop := ∀ (C : Calls) (X : Cx), Cw B k c C X → ∀ (u : U) (env env' : Env) (S S' : Sto) (z : Rz) (σ : L2.St) (H : Hp) (v : V) (Q : L2.St → Hp → Prop), asgT t C u env S = .ok env' S' → EnvOk X.K z H env σ → SO X.K z H S → RU X.K z H u v →
  (∀ z' H' σ', Ext z H z' H' → SO X.K z' H' S' → EnvOk X.K z' H' env' σ' → (∀ own, t.within own = true → wipe σ' own = wipe σ own) → Q σ' H') → wG X e v σ H Q
def SndGs (c : Sc) (es : List Expr) (ts : Tgs) : Prop := ∀ (C : Calls) (X : Cx), Cw B k c C X → ∀ (ds : List D) (env env' : Env) (S S' : Sto) (z : Rz) (σ : L2.St) (H : Hp) (vs : List V) (Q : L2.St → Hp → Prop), asgTs ts C ds env S = .ok env' S' → EnvOk X.K z H env σ → SO X.K z H S → RpAll X.K (Im z H) vs ds →
  (∀ z' H' σ', Ext z H z' H' → SO X.K z' H' S' → EnvOk X.K z' H' env' σ' → (∀ own, ts.within own = true → wipe σ' own = wipe σ own) → Q σ' H') → wGs X es vs σ H Q
def SndF (c : Sc) (es : List Expr) (xs : Exs) : Prop := ∀ (C : Calls) (X : Cx), Cw B k c C X → ∀ (env : Env) (S S' : Sto) (b : Bool) (z : Rz) (σ : L2.St) (H : Hp) (Q : Bool → Hp → Prop), evIfs xs C env S = .ok b S' → EnvOk X.K z H env σ → SO X.K z H S →
  (∀ z' H', Ext z H z' H' → SO X.K z' H' S' → Q b H') → wFs X es σ H Q
end

/-! ### the text's small facts -/
theorem CE.star {c : Sc} {m : Bool} {e : Expr} {x : Ex} (h : CE c m e x) (es : List Expr) (env : PySem.Env) : starEach (e :: es) env = (false, eval e env) :: starEach es env := by
  cases h <;> rfl
theorem CEs.nostar {c : Sc} (env : PySem.Env) (pos : Pos) : ∀ {es : List Expr} {xs : Exs}, CEs c es xs → (backTo pos (starEach es env)).any (·.1) = false
  | [], _, _ => rfl
  | e :: es, _, h => by
    cases h with
    | cons h g =>
      rw [h.star]
      show (false || (backTo pos (starEach es env)).any (·.1)) = false
      rw [CEs.nostar env pos g]
      rfl
theorem CEs.allplain {c : Sc} (env : PySem.Env) (pos : Pos) : ∀ {es : List Expr} {xs : Exs}, CEs c es xs → (backTo pos (starEach es env)).all (fun x => !x.1) = true
  | [], _, _ => rfl
  | e :: es, _, h => by
    cases h with
    | cons h g =>
      rw [h.star]
      show (true && (backTo pos (starEach es env)).all (fun x => !x.1)) = true
      rw [CEs.allplain env pos g]
      rfl
theorem CKs.some {c : Sc} (env : PySem.Env) (pos : Pos) : ∀ {ks : List Keyword} {ns : List Str} {xs : Exs}, CKs c ks ns xs →
    (backToKw pos (keywordEach ks env)).all (·.1.isSome) = true ∧ (backToKw pos (keywordEach ks env)).filterMap (·.1) = ns ∧ (backToKw pos (keywordEach ks env)).any (·.1.isNone) = false
  | [], _, _, h => by cases h; exact ⟨rfl, rfl, rfl⟩
  | _ :: ks, _, _, h => by
    cases h with
    | @cons _ n e p ks ns x xs h g =>
      obtain ⟨h1, h2, h3⟩ := CKs.some env pos g
      refine ⟨?_, ?_, ?_⟩
      · show (true && (backToKw pos (keywordEach ks env)).all (·.1.isSome)) = true
        rw [h1]; rfl
      · show n :: (backToKw pos (keywordEach ks env)).filterMap (·.1) = n :: ns
        rw [h2]
      · show (false || (backToKw pos (keywordEach ks env)).any (·.1.isNone)) = false
        rw [h3]; rfl
theorem CE.plainIx {c : Sc} {m : Bool} {e : Expr} {x : Ex} (h : CE c m e x) : PlainIx e := by
  intro o i
  cases h <;> rfl
theorem notCall_base {o : Expr} (h : notCall o = true) (x : Str) (env : PySem.Env) (w : Sem Value) : attributeBase o x env w = w := by
  cases o <;> first | rfl | cases h
theorem notSet_fold {o : Expr} (h : notSet o = true) (env : PySem.Env) (v : Value) : foldedSetIterable o env v = pure v := by
  cases o <;> first | rfl | cases h
end Ev

/-! Ev5: list comprehensions, calls. -/
namespace Ev
open PySem PySem.Spec PyProof.Rows L2

/-! ### an object that is set aside -/
section
variable {K : PySem.W.Frag} {z z' : Rz} {H H' : Hp} {S : Sto} {d : Addr}
theorem Im.res (hd : d ∈ z.rs) {o : HO} : Le (Im z H) (Im z (upd H d o)) := fun b u h => by
  obtain ⟨h1, h2⟩ := Im.out h
  have ne : b ≠ d := fun e => h2 (.inr (by rw [e]; exact hd))
  exact Im.mk (by rw [upd_ne ne]; exact h1) h2
theorem SO.res (so : SO K z H S) (hd : d ∈ z.rs) {o : HO} : SO K z (upd H d o) S where
  ln := so.ln
  nd := so.nd
  tr := fun p h => by
    by_cases e : p = d
    · subst e; rw [upd_same]; exact Option.some_ne_none _
    · rw [upd_ne e]; exact so.tr p h
  dj := so.dj
  al := fun i xs h => by
    obtain ⟨p, vs, h1, h2, h3⟩ := so.al i xs h
    have ne : p ≠ d := fun e => so.dj i p h1 (by rw [e]; exact hd)
    exact ⟨p, vs, h1, by rw [upd_ne ne]; exact h2, RpAll.mono (Im.res hd) _ _ h3⟩
theorem set_aside (so : SO K z H S) (hn : H d = none) {o : HO} : Grow z H { z with rs := d :: z.rs } (upd H d o) ∧ SO K { z with rs := d :: z.rs } (upd H d o) S := by
  have g : Le (Im z H) (Im { z with rs := d :: z.rs } (upd H d o)) := fun b u h => by
    obtain ⟨h1, h2⟩ := Im.out h
    have ne : b ≠ d := ne_of_none h1 hn
    refine Im.mk (by rw [upd_ne ne]; exact h1) fun c => ?_
    rcases c with c | c
    · exact h2 (.inl c)
    · rcases List.mem_cons.mp c with c | c
      · exact ne c
      · exact h2 (.inr c)
  refine ⟨⟨g, Nat.le_refl _, fun _ _ _ h => h⟩, so.ln, so.nd, fun p h => ?_, fun i p h c => ?_, fun i xs h => ?_⟩
  · by_cases e : p = d
    · subst e; rw [upd_same]; exact Option.some_ne_none _
    · rw [upd_ne e]
      rcases h with h | h
      · exact so.tr p (.inl h)
      · rcases List.mem_cons.mp h with h | h
        · exact absurd h e
        · exact so.tr p (.inr h)
  · rcases List.mem_cons.mp c with c | c
    · subst c
      exact so.tr p (.inl (get_mem h)) hn
    · exact so.dj i p h c
  · obtain ⟨p, vs, h1, h2, h3⟩ := so.al i xs h
    exact ⟨p, vs, h1, by rw [upd_ne (ne_of_none h2 hn)]; exact h2, RpAll.mono g _ _ h3⟩
/-- it is let go: a list, frozen or of one's own -/
theorem let_go {z0 : Rz} {H0 : Hp} {m : Bool} {ds : List D} {u : U} {S' : Sto} {vs : List V} {Q : VK} (e : mkL m ds S = .ok u S') (so : SO K z H S) (hrs : z.rs = d :: z0.rs) (hn : H0 d = none) (hd : H d = some (.lst vs)) (ra : RpAll K (Im z H) vs ds) (hdn : d ∉ z0.rs)
    (g : Grow z0 H0 z H) (kp : ∀ b ∈ z0.rs, ∀ o, H0 b = some o → H b = some o) (tr : ∀ b, H0 b ≠ none → H b ≠ none) (q : Aft K z0 H0 S' u Q) : Q (.ref d) H := by
  have hin : d ∈ z.rs := by rw [hrs]; exact List.mem_cons_self
  have nc : ∀ i : Nat, z.cs[i]? ≠ some (some d) := fun i h => so.dj i d h hin
  have base : Le (Im z H) (Im { z with rs := z0.rs } H) := fun b o h => by
    obtain ⟨h1, h2⟩ := Im.out h
    refine Im.mk h1 fun c => ?_
    rcases c with c | c
    · exact h2 (.inl c)
    · exact h2 (.inr (by rw [hrs]; exact List.mem_cons_of_mem _ c))
  have so2 : SO K { z with rs := z0.rs } H S := by
    refine ⟨so.ln, so.nd, fun p h => ?_, fun i p h c => so.dj i p h (by rw [hrs]; exact List.mem_cons_of_mem _ c), fun i xs h => ?_⟩
    · rcases h with h | h
      · exact so.tr p (.inl h)
      · exact so.tr p (.inr (by rw [hrs]; exact List.mem_cons_of_mem _ h))
    · obtain ⟨p, ws, h1, h2, h3⟩ := so.al i xs h
      exact ⟨p, ws, h1, h2, RpAll.mono base _ _ h3⟩
  have ext : Ext z0 H0 { z with rs := z0.rs } H := ⟨fun b o h => base b o (g.im b o h), rfl, kp, g.ln, g.cs, tr⟩
  have nh : ¬ ({ z with rs := z0.rs } : Rz).has d := fun c => by
    rcases c with c | c
    · obtain ⟨i, hi⟩ := mem_get c
      exact nc i hi
    · exact hdn c
  unfold mkL at e
  cases m with
  | false =>
    rw [if_neg (by decide)] at e
    cases e
    exact q _ _ _ ext so2 (.lst (Im.mk hd nh) (RpAll.mono base _ _ ra))
  | true =>
    rw [if_pos rfl] at e
    cases e
    have g3 : Le (Im z H) (Im { cs := z.cs ++ [some d], rs := z0.rs } H) := fun b o h => by
      obtain ⟨h1, h2⟩ := Im.out h
      refine Im.mk h1 fun c => ?_
      rcases c with c | c
      · rcases List.mem_append.mp c with c | c
        · exact h2 (.inl c)
        · have e : b = d := by simpa using c
          exact h2 (.inr (by rw [e]; exact hin))
      · exact h2 (.inr (by rw [hrs]; exact List.mem_cons_of_mem _ c))
    have key : ∀ (j : Nat) (p : Addr), (z.cs ++ [some d])[j]? = some (some p) → (j < z.cs.length ∧ z.cs[j]? = some (some p)) ∨ (j = z.cs.length ∧ p = d) := fun j p h => by
      by_cases hj : j < z.cs.length
      · rw [List.getElem?_append_left hj] at h; exact .inl ⟨hj, h⟩
      · rw [List.getElem?_append_right (by omega)] at h
        have h0 : j - z.cs.length = 0 := by
          cases e : j - z.cs.length with
          | zero => rfl
          | succ n => rw [e] at h; simp at h
        rw [h0] at h
        exact .inr ⟨by omega, by simpa using h.symm⟩
    refine q { cs := z.cs ++ [some d], rs := z0.rs } H _ ⟨fun b o h => g3 b o (g.im b o h), rfl, kp, ?_, fun i p hi h => ?_, tr⟩ ⟨?_, fun i j p h1 h2 => ?_, fun p h => ?_, fun i p h => ?_, fun i xs h => ?_⟩ ⟨?_, fun p h => ?_⟩
    · have := g.ln; simp; omega
    · have hl := g.ln
      have h' : (z.cs ++ [some d])[i]? = some (some p) := h
      rw [List.getElem?_append_left (by omega)] at h'
      exact g.cs i p hi h'
    · simp [so.ln]
    · rcases key i p h1 with ⟨_, a⟩ | ⟨a, a'⟩
      · rcases key j p h2 with ⟨_, b⟩ | ⟨b, b'⟩
        · exact so.nd i j p a b
        · subst b'; exact absurd a (nc i)
      · rcases key j p h2 with ⟨_, b⟩ | ⟨b, b'⟩
        · subst a'; exact absurd b (nc j)
        · omega
    · rcases h with h | h
      · rcases List.mem_append.mp h with h | h
        · exact so.tr p (.inl h)
        · have e : p = d := by simpa using h
          rw [e, hd]; exact Option.some_ne_none _
      · exact so.tr p (.inr (by rw [hrs]; exact List.mem_cons_of_mem _ h))
    · rcases key i p h with ⟨_, a⟩ | ⟨a, a'⟩
      · exact fun c => so.dj i p a (by rw [hrs]; exact List.mem_cons_of_mem _ c)
      · rw [a']; exact hdn
    · by_cases hi : i < S.length
      · rw [List.getElem?_append_left hi] at h
        obtain ⟨p, ws, h1, h2, h3⟩ := so.al i xs h
        refine ⟨p, ws, ?_, h2, RpAll.mono g3 _ _ h3⟩
        show (z.cs ++ [some d])[i]? = _
        rw [List.getElem?_append_left (by rw [← so.ln]; exact hi)]
        exact h1
      · rw [List.getElem?_append_right (by omega)] at h
        have h0 : i - S.length = 0 := by
          cases e : i - S.length with
          | zero => rfl
          | succ n => rw [e] at h; simp at h
        rw [h0] at h
        have e : xs = ds := by simpa using h.symm
        subst e
        have ei : i = z.cs.length := by have := so.ln; omega
        refine ⟨d, vs, ?_, hd, RpAll.mono g3 _ _ ra⟩
        show (z.cs ++ [some d])[i]? = _
        rw [ei, List.getElem?_append_right (Nat.le_refl _)]
        simp
    · have := so.ln; simp; omega
    · have h' : (z.cs ++ [some d])[S.length]? = some (some p) := h
      rw [so.ln, List.getElem?_append_right (Nat.le_refl _)] at h'
      have e : d = p := by simpa using h'
      rw [e]
end

/-! ### a block's context -/
theorem Cw.blk {B : Bs} {k : Nat} {c : Sc} {C : Calls} {X : Cx} (w : Cw B k c C X) (s : Shared) (H : Hp) (scope : Scope) (a : Addr) (cl : List (Str × Addr)) (fp : List Addr) : Cw B k (c.blk scope) C (X.blk s H scope (compEnvC scope cl a X.env) fp) where
  of := ⟨w.of.P, w.of.w, w.of.K, w.of.mg, w.of.base⟩
  gd := ⟨w.gd.calm, w.gd.hu, w.gd.grd⟩
  room := w.room
  nN := w.nN
  nd := w.nd
  sc := by
    show relabel scope X.env = relS scope c.sc
    rw [← w.sc]
    rfl
  fn := rfl
  gl := ⟨w.gl.cs, w.gl.ms, w.gl.bl⟩
  call := w.call
theorem wipe_idem (σ : L2.St) (l : List Nat) : wipe (wipe σ l) l = wipe σ l := by
  have one : ∀ (i : Nat), i ∈ l → (wipe σ l).set i none = wipe σ l := fun i hi => by
    apply List.ext_getElem?
    intro j
    by_cases c : i = j
    · subst c
      by_cases hl : i < (wipe σ l).length
      · rw [List.getElem?_set_self hl]
        have : ∀ l : List Nat, i ∈ l → i < σ.length → (wipe σ l)[i]? = some none := fun l => by
          induction l with
          | nil => intro h; cases h
          | cons a l ih =>
            intro h hl
            unfold wipe
            by_cases e : a = i
            · subst e; rw [List.getElem?_set_self (by rw [wipe_length]; exact hl)]
            · rw [List.getElem?_set_ne e]
              exact ih ((List.mem_cons.mp h).resolve_left (fun c => e c.symm)) hl
        rw [this l hi (by rw [wipe_length] at hl; exact hl)]
      · rw [List.getElem?_eq_none (by simp; omega), List.getElem?_eq_none (by omega)]
    · rw [List.getElem?_set_ne c]
  have all : ∀ l2 : List Nat, (∀ i ∈ l2, i ∈ l) → wipe (wipe σ l) l2 = wipe σ l := fun l2 => by
    induction l2 with
    | nil => intro _; rfl
    | cons a l2 ih =>
      intro h
      have hh := ih fun i hi => h i (List.mem_cons_of_mem _ hi)
      show (wipe (wipe σ l) l2).set a none = wipe σ l
      rw [hh]
      exact one a (h a List.mem_cons_self)
  exact all l fun _ h => h
/-- the turns of a comprehension: where it stands -/
structure CompI (K : PySem.W.Frag) (step : D → Sto → Res (Option D)) (src : Src) (z1 : Rz) (H1 : Hp) (d : Addr) (ds : List D) (S3 : Sto) (i : Nat) (H : Hp) : Prop where
  le : i ≤ src.1.length
  ex : ∃ (zd : Rz) (S : Sto) (vs : List V) (acc rest : List D), zd.rs = d :: z1.rs ∧ Grow z1 H1 zd H ∧ SO K zd H S ∧ (∀ b ∈ z1.rs, ∀ o, H1 b = some o → H b = some o) ∧ (∀ b, H1 b ≠ none → H b ≠ none) ∧ H d = some (.lst vs) ∧ RpAll K (Im zd H) vs acc ∧
    compL step src.2 (src.1.drop i) S = .ok rest S3 ∧ ds = acc ++ rest ∧ acc.length ≤ i
theorem comp_core {B : Bs} {k : Nat} {c : Sc} {m : Bool} {elt tg iter : Expr} {ifs : List Expr} {scope : Scope} {own : List (Str × Nat)} {t : Tg} {it : Itr} {fs : Exs} {x : Ex} (ok : BlkOk c.N c.sc scope own) (hw : t.within (own.map (·.2)) = true) (hs : notSet iter = true)
    (sI : SndI B k c tg iter it) (sG : SndG B k (c.blk scope) tg t) (sF : SndF B k (c.blk scope) ifs fs) (sE : SndE B k (c.blk scope) elt x) : ∀ (C : Calls) (X : Cx), Cw B k c C X → ∀ (env : Env) (S S' : Sto) (u : U) (z : Rz) (σ : L2.St) (H : Hp) (Q : VK), evE (.comp m (own.map (·.2)) t it fs x) C env S = .ok u S' → EnvOk X.K z H env σ → SO X.K z H S → Aft X.K z H S' u Q →
    tLc (wI X tg iter) (fun v σ H Q => ∀ (s0 : Shared) (H0 : Hp) (C0 : Addr) (cl : List (Str × Addr)) (fp : List Addr), wG (X.blk s0 H0 scope (compEnvC scope cl C0 X.env) fp) tg v σ H Q)
      (fun σ H Q => ∀ (s0 : Shared) (H0 : Hp) (C0 : Addr) (cl : List (Str × Addr)) (fp : List Addr), wFs (X.blk s0 H0 scope (compEnvC scope cl C0 X.env) fp) ifs σ H Q)
      (fun σ H Q => ∀ (s0 : Shared) (H0 : Hp) (C0 : Addr) (cl : List (Str × Addr)) (fp : List Addr), wE (X.blk s0 H0 scope (compEnvC scope cl C0 X.env) fp) elt σ H Q) (own.map (·.2)) σ H Q := by
  intro C X cw env S S' u z σ H Q e he so q
  unfold evE at e
  obtain ⟨src, S1, e1, e⟩ := bind_ok e
  split at e
  · rename_i hlen
    obtain ⟨ds, S3, e3, e⟩ := bind_ok e
    refine sI C X cw env S S1 src z σ H _ e1 he so fun z1 H1 J x1 so1 it1 => ?_
    intro d hd
    have hdn : d ∉ z1.rs := fun c => so1.tr d (.inr c) hd
    obtain ⟨g0, so0⟩ := set_aside (K := X.K) (o := .lst []) so1 hd
    refine ⟨fun i n H2 => n = src.1.length - i ∧ CompI X.K _ src z1 H1 d ds S3 i H2, ⟨src.1.length, by simp, Nat.zero_le _, _, S1, [], [], ds, rfl, g0, so0, fun b _ o h => by rw [upd_ne (ne_of_none h hd)]; exact h, fun b h => ?_, upd_same, .nil, e3, rfl, Nat.le_refl _⟩, ?_⟩
    · by_cases eb : b = d
      · subst eb; rw [upd_same]; exact Option.some_ne_none _
      · rw [upd_ne eb]; exact h
    · rintro i n H2 ⟨rfl, hle, zd, S2, vs, acc, rest, hrs, gr, so2, kp, tr, hd2, ra, ev, eds, hacc⟩
      have hin : d ∈ zd.rs := by rw [hrs]; exact List.mem_cons_self
      by_cases hi : i < src.1.length
      · have hdrop : src.1.drop i = src.1[i] :: src.1.drop (i + 1) := List.drop_eq_getElem_cons hi
        rw [hdrop] at ev
        unfold compL at ev
        split at ev
        · rename_i hst
          obtain ⟨o, S6, ev1, ev⟩ := bind_ok ev
          obtain ⟨rest2, S7, ev2, ev⟩ := bind_ok ev
          simp only [Res.ok.injEq] at ev
          obtain ⟨er, rfl⟩ := ev
          obtain ⟨env3, S4, ev3, ev1⟩ := bind_ok ev1
          obtain ⟨b, S5, ev4, ev1⟩ := bind_ok ev1
          obtain ⟨itg, _⟩ := it1 zd H2 S2 gr so2 hst
          obtain ⟨go, yl⟩ := itg i src.1[i] (List.getElem?_eq_getElem hi)
          refine .inr ⟨go, fun H3 => CompI X.K _ src z1 H1 d ds S7 (i + 1) H3, fun H3 h => ⟨src.1.length - (i + 1), by omega, rfl, h⟩, fun xv H3 y => ?_⟩
          obtain ⟨x3, so3, rx⟩ := yl xv H3 y
          intro s0 H0 C0 cl fp
          have envO : EnvOk X.K zd H3 (wipeE env (own.map (·.2))) (wipe σ (own.map (·.2))) := (((he.mono x1).grow gr).mono x3).wipe _
          refine sG C _ (cw.blk s0 H0 scope C0 cl fp) (.d src.1[i]) _ env3 S2 S4 zd _ H3 xv _ ev3 envO so3 rx fun z4 H4 σ4 x4 so4 env4 w4 => ⟨?_, ?_⟩
          · have e1 := w4 _ hw
            rw [e1]
            exact wipe_idem _ _
          · intro s0' H0' C0' cl' fp'
            refine sF C _ (cw.blk s0' H0' scope C0' cl' fp') env3 S4 S5 b z4 _ H4 _ ev4 env4 so4 fun z5 H5 x5 so5 => ?_
            have x35 : Ext zd H2 z5 H5 := (x3.trans x4).trans x5
            have hd5 : H5 d = some (.lst vs) := x35.kp d hin _ hd2
            have hrs5 : z5.rs = d :: z1.rs := x35.rs.trans hrs
            cases b with
            | false =>
              rw [if_neg (by decide)] at ev1 ⊢
              cases ev1
              exact ⟨by omega, z5, S6, vs, acc, rest2, hrs5, gr.trans x35.grow, so5, fun b hb o h => x35.kp b (by rw [hrs]; exact List.mem_cons_of_mem _ hb) o (kp b hb o h), fun b h => x35.tr b (tr b h), hd5, RpAll.mono x35.im _ _ ra, ev2, by rw [eds, ← er], by omega⟩
            | true =>
              rw [if_pos rfl] at ev1 ⊢
              obtain ⟨u1, S8, ev5, ev1⟩ := bind_ok ev1
              obtain ⟨dv, S9, ev6, ev1⟩ := bind_ok ev1
              cases ev1
              intro s1 H1' C1 cl1 fp1
              refine sE C _ (cw.blk s1 H1' scope C1 cl1 fp1) env3 S5 S8 u1 z5 _ H5 _ ev5 (env4.mono x5) so5 fun z6 H6 yv x6 so6 r6 => ?_
              obtain ⟨z7, x7, so7, rp7⟩ := frz_ok ev6 so6 r6
              have x37 : Ext zd H2 z7 H6 := (x35.trans x6).trans x7
              have hd6 : H6 d = some (.lst vs) := x37.kp d hin _ hd2
              have hrs7 : z7.rs = d :: z1.rs := x37.rs.trans hrs
              have hin7 : d ∈ z7.rs := by rw [hrs7]; exact List.mem_cons_self
              have hl : vs.length = acc.length := ra.length
              refine ⟨vs, hd6, by omega, by omega, z7, S6, vs ++ [yv], acc ++ [dv], rest2, hrs7, ?_, so7.res hin7, fun b hb o h => ?_, fun b h => ?_, upd_same, ?_, ev2, ?_, by simp; omega⟩
              · have g7 := gr.trans x37.grow
                exact ⟨fun b o h => Im.res hin7 b o (g7.im b o h), g7.ln, g7.cs⟩
              · have ne : b ≠ d := fun c => hdn (by rw [← c]; exact hb)
                rw [upd_ne ne]
                exact x37.kp b (by rw [hrs]; exact List.mem_cons_of_mem _ hb) o (kp b hb o h)
              · by_cases eb : b = d
                · subst eb; rw [upd_same]; exact Option.some_ne_none _
                · rw [upd_ne eb]; exact x37.tr b (tr b h)
              · refine RpAll.append (RpAll.mono (fun b o h => Im.res hin7 b o (x37.im b o h)) _ _ ra) (.cons (Rp.mono (Im.res hin7) _ _ rp7) .nil)
              · rw [eds, ← er]; simp
        · cases ev
      · have ei : i = src.1.length := by omega
        rw [ei, List.drop_length] at ev
        unfold compL at ev
        split at ev
        · rename_i hst
          cases ev
          obtain ⟨_, stop⟩ := it1 zd H2 _ gr so2 hst
          refine .inl ⟨by rw [ei]; exact stop, ?_⟩
          rw [List.append_nil] at eds
          subst eds
          exact let_go e so2 hrs hd hd2 ra hdn gr kp tr fun z' H' v a b c => q z' H' v (x1.trans a) b c
        · cases ev
  · cases e
theorem comp_snd {B : Bs} {k : Nat} {c : Sc} {m : Bool} {elt tg iter : Expr} {ifs : List Expr} {scope : Scope} {own : List (Str × Nat)} {pos : Pos} {t : Tg} {it : Itr} {fs : Exs} {x : Ex} (ok : BlkOk c.N c.sc scope own) (hw : t.within (own.map (·.2)) = true) (hs : notSet iter = true)
    (sI : SndI B k c tg iter it) (sG : SndG B k (c.blk scope) tg t) (sF : SndF B k (c.blk scope) ifs fs) (sE : SndE B k (c.blk scope) elt x) : SndE B k c (.ListComp elt [⟨tg, iter, ifs, 0⟩] scope pos) (.comp m (own.map (·.2)) t it fs x) := by
  intro C X cw env S S' u z σ H Q e he so q
  have okX : BlkOk X.N X.env.scope scope own := by rw [cw.nN, cw.sc]; exact ok
  exact PE.use (pe_lc cw.gd.calm cw.nd pi_q okX (fun s0 H0 C0 cl fp => ⟨fun pins s σ H v u Q I r h => h s0 H0 C0 cl fp pins s u I r⟩) (fun s0 H0 C0 cl fp => ⟨fun pins s σ H Q I h => h s0 H0 C0 cl fp pins s I⟩) (fun s0 H0 C0 cl fp => ⟨fun pins s σ H Q I h => h s0 H0 C0 cl fp pins s I⟩) (notSet_fold hs _))
    (comp_core ok hw hs sI sG sF sE C X cw env S S' u z σ H Q e he so q)

/-- two generators: where the outer one stands -/
structure CompJ (K : PySem.W.Frag) (step : D → Sto → Res (List D)) (src : Src) (z1 : Rz) (H1 : Hp) (d : Addr) (ds : List D) (S3 : Sto) (i : Nat) (H : Hp) : Prop where
  le : i ≤ src.1.length
  ex : ∃ (zd : Rz) (S : Sto) (vs : List V) (acc rest : List D), zd.rs = d :: z1.rs ∧ Grow z1 H1 zd H ∧ SO K zd H S ∧ (∀ b ∈ z1.rs, ∀ o, H1 b = some o → H b = some o) ∧ (∀ b, H1 b ≠ none → H b ≠ none) ∧ H d = some (.lst vs) ∧ RpAll K (Im zd H) vs acc ∧
    compLL step src.2 (src.1.drop i) S = .ok rest S3 ∧ ds = acc ++ rest
/-- .. the inner one -/
structure CompK (K : PySem.W.Frag) (step : D → Sto → Res (Option D)) (src : Src) (z1 : Rz) (H1 : Hp) (z5 : Rz) (H5 : Hp) (d : Addr) (ds rest2 : List D) (S7 : Sto) (j : Nat) (H : Hp) : Prop where
  le : j ≤ src.1.length
  ex : ∃ (zd : Rz) (S : Sto) (vs : List V) (acc rest : List D), zd.rs = d :: z1.rs ∧ Grow z1 H1 zd H ∧ Grow z5 H5 zd H ∧ SO K zd H S ∧ (∀ b ∈ z1.rs, ∀ o, H1 b = some o → H b = some o) ∧ (∀ b, H1 b ≠ none → H b ≠ none) ∧ H d = some (.lst vs) ∧ RpAll K (Im zd H) vs acc ∧
    compL step src.2 (src.1.drop j) S = .ok rest S7 ∧ ds = acc ++ (rest ++ rest2)
theorem comp2_core {B : Bs} {k : Nat} {c : Sc} {m : Bool} {elt tg iter tg1 iter1 : Expr} {ifs ifs1 : List Expr} {scope : Scope} {own : List (Str × Nat)} {vs1 : List Nat} {t t1 : Tg} {it it1 : Itr} {fs fs1 : Exs} {x : Ex} (ok : BlkOk c.N c.sc scope own) (hw : t.within (own.map (·.2)) = true) (hw1 : t1.within vs1 = true)
    (sI : SndI B k c tg iter it) (sG : SndG B k (c.blk scope) tg t) (sF : SndF B k (c.blk scope) ifs fs) (sI1 : SndI B k (c.blk scope) tg1 iter1 it1) (sG1 : SndG B k (c.blk scope) tg1 t1) (sF1 : SndF B k (c.blk scope) ifs1 fs1) (sE : SndE B k (c.blk scope) elt x) :
    ∀ (C : Calls) (X : Cx), Cw B k c C X → ∀ (env : Env) (S S' : Sto) (u : U) (z : Rz) (σ : L2.St) (H : Hp) (Q : VK), evE (.comp2 m (own.map (·.2)) t it fs vs1 t1 it1 fs1 x) C env S = .ok u S' → EnvOk X.K z H env σ → SO X.K z H S → Aft X.K z H S' u Q →
    tLc2 (wI X tg iter) (fun v σ H Q => ∀ (s0 : Shared) (H0 : Hp) (C0 : Addr) (cl : List (Str × Addr)) (fp : List Addr), wG (X.blk s0 H0 scope (compEnvC scope cl C0 X.env) fp) tg v σ H Q)
      (fun σ H Q => ∀ (s0 : Shared) (H0 : Hp) (C0 : Addr) (cl : List (Str × Addr)) (fp : List Addr), wFs (X.blk s0 H0 scope (compEnvC scope cl C0 X.env) fp) ifs σ H Q)
      (fun σ H R => ∀ (s0 : Shared) (H0 : Hp) (C0 : Addr) (cl : List (Str × Addr)) (fp : List Addr), wI (X.blk s0 H0 scope (compEnvC scope cl C0 X.env) fp) tg1 iter1 σ H R)
      (fun v σ H Q => ∀ (s0 : Shared) (H0 : Hp) (C0 : Addr) (cl : List (Str × Addr)) (fp : List Addr), wG (X.blk s0 H0 scope (compEnvC scope cl C0 X.env) fp) tg1 v σ H Q)
      (fun σ H Q => ∀ (s0 : Shared) (H0 : Hp) (C0 : Addr) (cl : List (Str × Addr)) (fp : List Addr), wFs (X.blk s0 H0 scope (compEnvC scope cl C0 X.env) fp) ifs1 σ H Q)
      (fun σ H Q => ∀ (s0 : Shared) (H0 : Hp) (C0 : Addr) (cl : List (Str × Addr)) (fp : List Addr), wE (X.blk s0 H0 scope (compEnvC scope cl C0 X.env) fp) elt σ H Q) (own.map (·.2)) vs1 σ H Q := by
  intro C X cw env S S' u z σ H Q e he so q
  unfold evE at e
  obtain ⟨src, S1, e1, e⟩ := bind_ok e
  obtain ⟨ds, S3, e3, e⟩ := bind_ok e
  split at e
  · rename_i hlen
    refine sI C X cw env S S1 src z σ H _ e1 he so fun z1 H1 J x1 so1 it0 => ?_
    intro d hd
    have hdn : d ∉ z1.rs := fun c => so1.tr d (.inr c) hd
    obtain ⟨g0, so0⟩ := set_aside (K := X.K) (o := .lst []) so1 hd
    refine ⟨fun i n H2 => n = src.1.length - i ∧ CompJ X.K _ src z1 H1 d ds S3 i H2, ⟨src.1.length, by simp, Nat.zero_le _, _, S1, [], [], ds, rfl, g0, so0, fun b _ o h => by rw [upd_ne (ne_of_none h hd)]; exact h, fun b h => ?_, upd_same, .nil, e3, rfl⟩, ?_⟩
    · by_cases eb : b = d
      · subst eb; rw [upd_same]; exact Option.some_ne_none _
      · rw [upd_ne eb]; exact h
    · rintro i n H2 ⟨rfl, hle, zd, S2, vs, acc, rest, hrs, gr, so2, kp, tr, hd2, ra, ev, eds⟩
      have hin : d ∈ zd.rs := by rw [hrs]; exact List.mem_cons_self
      by_cases hi : i < src.1.length
      · have hdrop : src.1.drop i = src.1[i] :: src.1.drop (i + 1) := List.drop_eq_getElem_cons hi
        rw [hdrop] at ev
        unfold compLL at ev
        split at ev
        · rename_i hst
          obtain ⟨ds1, S6, ev1, ev⟩ := bind_ok ev
          obtain ⟨rest2, S7, ev2, ev⟩ := bind_ok ev
          simp only [Res.ok.injEq] at ev
          obtain ⟨er, rfl⟩ := ev
          obtain ⟨env3, S4, ev3, ev1⟩ := bind_ok ev1
          obtain ⟨b, S5, ev4, ev1⟩ := bind_ok ev1
          obtain ⟨itg, _⟩ := it0 zd H2 S2 gr so2 hst
          obtain ⟨go, yl⟩ := itg i src.1[i] (List.getElem?_eq_getElem hi)
          refine .inr ⟨go, fun H3 => CompJ X.K _ src z1 H1 d ds S7 (i + 1) H3, fun H3 h => ⟨src.1.length - (i + 1), by omega, rfl, h⟩, fun xv H3 y => ?_⟩
          obtain ⟨x3, so3, rx⟩ := yl xv H3 y
          intro s0 H0 C0 cl fp
          have envO : EnvOk X.K zd H3 (wipeE env (own.map (·.2))) (wipe σ (own.map (·.2))) := (((he.mono x1).grow gr).mono x3).wipe _
          refine sG C _ (cw.blk s0 H0 scope C0 cl fp) (.d src.1[i]) _ env3 S2 S4 zd _ H3 xv _ ev3 envO so3 rx fun z4 H4 σ4 x4 so4 env4 w4 => ⟨?_, ?_⟩
          · rw [w4 _ hw]
            exact wipe_idem _ _
          · intro s0' H0' C0' cl' fp'
            refine sF C _ (cw.blk s0' H0' scope C0' cl' fp') env3 S4 S5 b z4 _ H4 _ ev4 env4 so4 fun z5 H5 x5 so5 => ?_
            have x35 : Ext zd H2 z5 H5 := (x3.trans x4).trans x5
            have hd5 : H5 d = some (.lst vs) := x35.kp d hin _ hd2
            have hrs5 : z5.rs = d :: z1.rs := x35.rs.trans hrs
            cases b with
            | false =>
              rw [if_neg (by decide)] at ev1 ⊢
              cases ev1
              exact ⟨by omega, z5, S6, vs, acc, rest2, hrs5, gr.trans x35.grow, so5, fun b hb o h => x35.kp b (by rw [hrs]; exact List.mem_cons_of_mem _ hb) o (kp b hb o h), fun b h => x35.tr b (tr b h), hd5, RpAll.mono x35.im _ _ ra, ev2, by rw [eds, ← er]; rfl⟩
            | true =>
              rw [if_pos rfl] at ev1 ⊢
              obtain ⟨src1, S8, ev5, ev1⟩ := bind_ok ev1
              intro s1 H1' C1 cl1 fp1
              refine sI1 C _ (cw.blk s1 H1' scope C1 cl1 fp1) env3 S5 S8 src1 z5 _ H5 _ ev5 (env4.mono x5) so5 fun z6 H6 J1 x6 so6 it6 => ?_
              have x36 : Ext zd H2 z6 H6 := x35.trans x6
              have hd6 : H6 d = some (.lst vs) := x36.kp d hin _ hd2
              have hrs6 : z6.rs = d :: z1.rs := x36.rs.trans hrs
              refine ⟨fun j n H7 => n = src1.1.length - j ∧ CompK X.K _ src1 z1 H1 z6 H6 d ds rest2 S6 j H7, ⟨src1.1.length, by simp, Nat.zero_le _, z6, S8, vs, acc, ds1, hrs6, gr.trans x36.grow, Ext.refl.grow, so6,
                fun b hb o h => x36.kp b (by rw [hrs]; exact List.mem_cons_of_mem _ hb) o (kp b hb o h), fun b h => x36.tr b (tr b h), hd6, RpAll.mono x36.im _ _ ra, ev1, by rw [eds, ← er]⟩, ?_⟩
              rintro j n H7 ⟨rfl, jle, ze, S9, ws, acc1, rest1, jrs, jg1, jg6, so9, jkp, jtr, jd, jra, jev, jds⟩
              have jin : d ∈ ze.rs := by rw [jrs]; exact List.mem_cons_self
              by_cases hj : j < src1.1.length
              · have jdrop : src1.1.drop j = src1.1[j] :: src1.1.drop (j + 1) := List.drop_eq_getElem_cons hj
                rw [jdrop] at jev
                unfold compL at jev
                split at jev
                · rename_i jst
                  obtain ⟨o, S10, jv1, jev⟩ := bind_ok jev
                  obtain ⟨rest3, S11, jv2, jev⟩ := bind_ok jev
                  simp only [Res.ok.injEq] at jev
                  obtain ⟨jer, rfl⟩ := jev
                  obtain ⟨env5, S12, jv3, jv1⟩ := bind_ok jv1
                  obtain ⟨b1, S13, jv4, jv1⟩ := bind_ok jv1
                  obtain ⟨jtg, _⟩ := it6 ze H7 S9 jg6 so9 jst
                  obtain ⟨jgo, jyl⟩ := jtg j src1.1[j] (List.getElem?_eq_getElem hj)
                  refine .inr ⟨jgo, fun H8 => CompK X.K _ src1 z1 H1 z6 H6 d ds rest2 S11 (j + 1) H8, fun H8 h => ⟨src1.1.length - (j + 1), by omega, rfl, h⟩, fun xw H8 y8 => ?_⟩
                  obtain ⟨x8, so8, rx8⟩ := jyl xw H8 y8
                  intro s2 H2' C2 cl2 fp2
                  have envI : EnvOk X.K ze H8 (wipeE env3 vs1) (wipe σ4 vs1) := ((((env4.mono x5).mono x6).grow jg6).mono x8).wipe _
                  refine sG1 C _ (cw.blk s2 H2' scope C2 cl2 fp2) (.d src1.1[j]) _ env5 S9 S12 ze _ H8 xw _ jv3 envI so8 rx8 fun z9 H9 σ9 x9 so9' env9 w9 => ⟨?_, ?_⟩
                  · rw [w9 _ hw1]
                    exact wipe_idem _ _
                  · intro s3 H3' C3 cl3 fp3
                    refine sF1 C _ (cw.blk s3 H3' scope C3 cl3 fp3) env5 S12 S13 b1 z9 _ H9 _ jv4 env9 so9' fun z10 H10 x10 so10 => ?_
                    have x810 : Ext ze H7 z10 H10 := (x8.trans x9).trans x10
                    have d10 : H10 d = some (.lst ws) := x810.kp d jin _ jd
                    have rs10 : z10.rs = d :: z1.rs := x810.rs.trans jrs
                    cases b1 with
                    | false =>
                      rw [if_neg (by decide)] at jv1 ⊢
                      cases jv1
                      exact ⟨by omega, z10, S10, ws, acc1, rest3, rs10, jg1.trans x810.grow, jg6.trans x810.grow, so10, fun b hb o h => x810.kp b (by rw [jrs]; exact List.mem_cons_of_mem _ hb) o (jkp b hb o h), fun b h => x810.tr b (jtr b h), d10, RpAll.mono x810.im _ _ jra, jv2, by rw [jds, ← jer]⟩
                    | true =>
                      rw [if_pos rfl] at jv1 ⊢
                      obtain ⟨u1, S14, jv5, jv1⟩ := bind_ok jv1
                      obtain ⟨dv, S15, jv6, jv1⟩ := bind_ok jv1
                      cases jv1
                      intro s4 H4' C4 cl4 fp4
                      refine sE C _ (cw.blk s4 H4' scope C4 cl4 fp4) env5 S13 S14 u1 z10 _ H10 _ jv5 (env9.mono x10) so10 fun z11 H11 yv x11 so11 r11 => ?_
                      obtain ⟨z12, x12, so12, rp12⟩ := frz_ok jv6 so11 r11
                      have x712 : Ext ze H7 z12 H11 := (x810.trans x11).trans x12
                      have d11 : H11 d = some (.lst ws) := x712.kp d jin _ jd
                      have rs12 : z12.rs = d :: z1.rs := x712.rs.trans jrs
                      have in12 : d ∈ z12.rs := by rw [rs12]; exact List.mem_cons_self
                      have hl : ws.length = acc1.length := jra.length
                      have hz : acc1.length < ds.length := by rw [jds, ← jer]; simp only [List.length_append, List.length_cons]; omega
                      refine ⟨ws, d11, by omega, by omega, z12, S10, ws ++ [yv], acc1 ++ [dv], rest3, rs12, ?_, ?_, so12.res in12, fun b hb o h => ?_, fun b h => ?_, upd_same, ?_, jv2, ?_⟩
                      · have g7 := jg1.trans x712.grow
                        exact ⟨fun b o h => Im.res in12 b o (g7.im b o h), g7.ln, g7.cs⟩
                      · have g7 := jg6.trans x712.grow
                        exact ⟨fun b o h => Im.res in12 b o (g7.im b o h), g7.ln, g7.cs⟩
                      · have ne : b ≠ d := fun c => hdn (by rw [← c]; exact hb)
                        rw [upd_ne ne]
                        exact x712.kp b (by rw [jrs]; exact List.mem_cons_of_mem _ hb) o (jkp b hb o h)
                      · by_cases eb : b = d
                        · subst eb; rw [upd_same]; exact Option.some_ne_none _
                        · rw [upd_ne eb]; exact x712.tr b (jtr b h)
                      · refine RpAll.append (RpAll.mono (fun b o h => Im.res in12 b o (x712.im b o h)) _ _ jra) (.cons (Rp.mono (Im.res in12) _ _ rp12) .nil)
                      · rw [jds, ← jer]; simp
                · cases jev
              · have ej : j = src1.1.length := by omega
                rw [ej, List.drop_length] at jev
                unfold compL at jev
                split at jev
                · rename_i jst
                  cases jev
                  obtain ⟨_, jstop⟩ := it6 ze H7 _ jg6 so9 jst
                  exact .inl ⟨by rw [ej]; exact jstop, by omega, ze, _, ws, acc1, rest2, jrs, jg1, so9, jkp, jtr, jd, jra, ev2, by rw [jds]; rfl⟩
                · cases jev
        · cases ev
      · have ei : i = src.1.length := by omega
        rw [ei, List.drop_length] at ev
        unfold compLL at ev
        split at ev
        · rename_i hst
          cases ev
          obtain ⟨_, stop⟩ := it0 zd H2 _ gr so2 hst
          refine .inl ⟨by rw [ei]; exact stop, ?_⟩
          rw [List.append_nil] at eds
          subst eds
          exact let_go e so2 hrs hd hd2 ra hdn gr kp tr fun z' H' v a b c => q z' H' v (x1.trans a) b c
        · cases ev
  · cases e
theorem comp2_snd {B : Bs} {k : Nat} {c : Sc} {m : Bool} {elt tg iter tg1 iter1 : Expr} {ifs ifs1 : List Expr} {scope : Scope} {own : List (Str × Nat)} {vs1 : List Nat} {pos : Pos} {t t1 : Tg} {it it1 : Itr} {fs fs1 : Exs} {x : Ex} (ok : BlkOk c.N c.sc scope own) (hw : t.within (own.map (·.2)) = true) (hv : ∀ i ∈ vs1, i ∈ own.map (·.2)) (hw1 : t1.within vs1 = true) (hs : notSet iter = true) (hs1 : notSet iter1 = true)
    (sI : SndI B k c tg iter it) (sG : SndG B k (c.blk scope) tg t) (sF : SndF B k (c.blk scope) ifs fs) (sI1 : SndI B k (c.blk scope) tg1 iter1 it1) (sG1 : SndG B k (c.blk scope) tg1 t1) (sF1 : SndF B k (c.blk scope) ifs1 fs1) (sE : SndE B k (c.blk scope) elt x) :
    SndE B k c (.ListComp elt [⟨tg, iter, ifs, 0⟩, ⟨tg1, iter1, ifs1, 0⟩] scope pos) (.comp2 m (own.map (·.2)) t it fs vs1 t1 it1 fs1 x) := by
  intro C X cw env S S' u z σ H Q e he so q
  have okX : BlkOk X.N X.env.scope scope own := by rw [cw.nN, cw.sc]; exact ok
  exact PE.use (pe_lc2 cw.gd.calm cw.nd pi_q okX hv (fun s0 H0 C0 cl fp => ⟨fun pins s σ H v u Q I r h => h s0 H0 C0 cl fp pins s u I r⟩) (fun s0 H0 C0 cl fp => ⟨fun pins s σ H Q I h => h s0 H0 C0 cl fp pins s I⟩)
      (fun s0 H0 C0 cl fp => ⟨fun pins s σ H R I h => h s0 H0 C0 cl fp pins s I⟩) (fun s0 H0 C0 cl fp => ⟨fun pins s σ H v u Q I r h => h s0 H0 C0 cl fp pins s u I r⟩) (fun s0 H0 C0 cl fp => ⟨fun pins s σ H Q I h => h s0 H0 C0 cl fp pins s I⟩)
      (fun s0 H0 C0 cl fp => ⟨fun pins s σ H Q I h => h s0 H0 C0 cl fp pins s I⟩) (notSet_fold hs _) (notSet_fold hs1))
    (comp2_core ok hw hw1 sI sG sF sI1 sG1 sF1 sE C X cw env S S' u z σ H Q e he so q)

/-! ### calls of the defs -/
section
variable {X : Cx} {σ : L2.St} {H : Hp} {Q : VK} {x : Str} {a : Addr} {p pos : Pos}
theorem call0 (hg : Gl X x) (hd : notDbg x) (hm : X.mg x = some (.ref a)) (hk : PySem.W.keepIn X.K (.ref a) = true) (q : wK X (.ref a) [] [] [] H Q) : wE X (.Call (.Name x p) [] [] pos) σ H Q := fun pins s I =>
  wpAny_Call_Name_kw (ld_glob I hg hm (PySem.W.callWith_K0 I.kIn hk (q pins s σ [] [] I .nil .nil)) hd)
theorem callA {e : Expr} {es : List Expr} (hg : Gl X x) (hd : notDbg x) (hm : X.mg x = some (.ref a)) (hk : PySem.W.keepIn X.K (.ref a) = true) (he : starEach (e :: es) X.env = (false, eval e X.env) :: starEach es X.env) (hpl : (backTo pos (starEach es X.env)).any (·.1) = false)
    (q : wA X (e :: es) σ H fun vs H1 => wK X (.ref a) [] vs [] H1 Q) : wE X (.Call (.Name x p) (e :: es) [] pos) σ H Q := fun pins s I =>
  wpAny_Call_Name_kw (ld_glob I hg hm (PySem.W.callWith_K (h₀ := X.base) I.ok.mod.kin hk (thn (q pos pins s I) fun us s1 h => let ⟨_, _, I1, r, q1⟩ := h; ⟨I1.kIn, q1 pins s1 σ us [] I1 r .nil⟩) he hpl) hd)
theorem callK0 {kws : List Keyword} {ns : List Str} (hg : Gl X x) (hd : notDbg x) (hm : X.mg x = some (.ref a)) (hk : PySem.W.keepIn X.K (.ref a) = true) (h1 : (backToKw pos (keywordEach kws X.env)).all (·.1.isSome) = true) (h2 : (backToKw pos (keywordEach kws X.env)).filterMap (·.1) = ns)
    (h3 : (backToKw pos (keywordEach kws X.env)).any (·.1.isNone) = false) (q : wKs X kws σ H fun zs H1 => wK X (.ref a) ns [] zs H1 Q) : wE X (.Call (.Name x p) [] kws pos) σ H Q := fun pins s I => by
  refine wpAny_Call_Name_kw (ld_glob I hg hm (PySem.W.callWith_KW0 (h₀ := X.base) I.ok.mod.kin hk h1 (thn (q pos pins s I) fun us s1 h => ?_) h3) hd)
  obtain ⟨_, _, I1, r, q1⟩ := h
  rw [h2]
  exact ⟨I1.kIn, q1 pins s1 σ [] us I1 .nil r⟩
theorem callAK {e : Expr} {es : List Expr} {kws : List Keyword} {ns : List Str} (hg : Gl X x) (hd : notDbg x) (hm : X.mg x = some (.ref a)) (hk : PySem.W.keepIn X.K (.ref a) = true) (he : starEach (e :: es) X.env = (false, eval e X.env) :: starEach es X.env)
    (hpl : (backTo pos (starEach (e :: es) X.env)).any (·.1) = false) (h1 : (backToKw pos (keywordEach kws X.env)).all (·.1.isSome) = true) (h2 : (backToKw pos (keywordEach kws X.env)).filterMap (·.1) = ns) (h3 : (backToKw pos (keywordEach kws X.env)).any (·.1.isNone) = false)
    (q : wA X (e :: es) σ H fun vs H1 => wKs X kws σ H1 fun zs H2 => wK X (.ref a) ns vs zs H2 Q) : wE X (.Call (.Name x p) (e :: es) kws pos) σ H Q := fun pins s I => by
  refine wpAny_Call_Name_kw (ld_glob I hg hm (PySem.W.callWith_KW (h₀ := X.base) I.ok.mod.kin hk h1 (thn (q pos pins s I) fun us s1 h => ?_) (by rw [hpl, h3]; rfl) he) hd)
  obtain ⟨_, _, I1, r, q1⟩ := h
  refine thn (q1 pos pins s1 I1) fun ws s2 h => ?_
  obtain ⟨_, _, I2, rz, q2⟩ := h
  rw [h2]
  exact ⟨I2.kIn, q2 pins s2 σ us ws I2 r rz⟩
end
end Ev

/-! Ev6: every expression. -/
namespace Ev
open PySem PySem.Spec PyProof.Rows L2

theorem blt_pe {X : Cx} {f : Bf} {x : Str} {p pos : Pos} {e : Expr} {es : List Expr} (hg : Gl X x) (hd : notDbg x) (hb : (bfFree f = true ∧ x = bfName f ∧ X.mg x = none) ∨ (X.mg x = some (bfV f) ∧ ∃ id, bfV f = .builtin id))
    (he : starEach (e :: es) X.env = (false, eval e X.env) :: starEach es X.env) (hpl : (backTo pos (starEach es X.env)).any (·.1) = false) : PE X (.Call (.Name x p) (e :: es) [] pos) (tCB (fun xs H Q => wC X (bfV f) xs H Q) (wA X (e :: es))) := by
  rcases hb with ⟨h1, rfl, hm⟩ | ⟨hm, id, h2⟩
  · cases f with
    | len => exact pe_callB call_w hg hm (by decide +kernel) pa_q (by decide) hd he hpl
    | all => exact pe_callB call_w hg hm (by decide +kernel) pa_q (by decide) hd he hpl
    | any => exact pe_callB call_w hg hm (by decide +kernel) pa_q (by decide) hd he hpl
    | tuple => exact pe_callTy call_w hg hm (by decide +kernel) pa_q (by decide) hd he hpl
    | list m => exact pe_callTy (x := "list") call_w hg hm PySem.Pv.boot_list pa_q (by decide) hd he hpl
    | abs => exact pe_callB call_w hg hm (by decide +kernel) pa_q (by decide) hd he hpl
    | min => exact pe_callB call_w hg hm (by decide +kernel) pa_q (by decide) hd he hpl
    | max => exact pe_callB call_w hg hm (by decide +kernel) pa_q (by decide) hd he hpl
    | int => exact pe_callTy call_w hg hm (by decide +kernel) pa_q (by decide) hd he hpl
    | repr => exact pe_callB call_w hg hm (by decide +kernel) pa_q (by decide) hd he hpl
    | sum => exact pe_callB call_w hg hm (by decide +kernel) pa_q (by decide) hd he hpl
    | divmod => exact pe_callB call_w hg hm (by decide +kernel) pa_q (by decide) hd he hpl
    | gcd => cases h1
    | isqrt => cases h1
    | bool => exact pe_callTy call_w hg hm (by decide +kernel) pa_q (by decide) hd he hpl
  · rw [h2] at hm ⊢
    exact pe_callBfun call_w hg hm pa_q hd he hpl
theorem pt_ite {X : Cx} {c a b : Expr} {pos : Pos} : PT X (.IfExp c a b pos) (fun σ H Q => wT X c σ H fun t H1 => if t = true then wT X a σ H1 Q else wT X b σ H1 Q) := ⟨fun pins s σ H Q I h => by
  show wpAny _ _ (isTrue c X.env (eval c X.env) >>= fun t => if t = true then isTrue a X.env (eval a X.env) else isTrue b X.env (eval b X.env)) _ _ s
  refine wpAny_bind (thn (h pins s I) fun t s1 h1 => ?_)
  obtain ⟨H1, I1, q⟩ := h1
  cases t with
  | true => exact q pins s1 I1
  | false => exact q pins s1 I1⟩
theorem pw_q {X : Cx} {op : BoolOp} {vs : List Expr} {pos : Pos} : PW X (.BoolOp op vs pos) (wT X (.BoolOp op vs pos)) := ⟨fun wh pins s σ H Q I h => h pins s I⟩
theorem tru_same {u : U} {S S' : Sto} {b : Bool} (h : tru u S = .ok b S') : S' = S := by
  unfold tru at h
  split at h
  · split at h
    · cases h; rfl
    · cases h
  · cases h
section
variable {B : Bs} {k : Nat} {c : Sc}
theorem sndT_of {e : Expr} {x : Ex} (h : SndE B k c e x) (he : ∀ (env : PySem.Env) (whole : Sem Value), isTrue e env whole = (do let v ← whole; standAt e.pos; holding [v] (truthy v))) : SndT B k c e x := by
  intro C X cw env S S' b z σ H Q ev hn so q
  obtain ⟨u, S1, e1, e2⟩ := bind_ok ev
  refine PT.use (pt_truth pe_q (he X.env)) (h C X cw env S S1 u z σ H _ e1 hn so fun z' H' v x1 so1 r => ?_)
  obtain ⟨rfl, tv⟩ := tru_w e2 so1 r
  exact ⟨b, tv, q z' H' x1 so1⟩
theorem seqD_r {i : Nat} {S : Sto} {src : Src} (h : seqD (.r i) S = some src) : ∃ ys, S[i]? = some (some ys) ∧ src = (ys, [(i, ys)]) := by
  unfold seqD at h
  cases q : S[i]? with
  | none => simp [q] at h
  | some c =>
    cases c with
    | none => simp [q] at h
    | some ys =>
      simp only [q, Option.some.injEq] at h
      exact ⟨ys, rfl, h.symm⟩
theorem list_src {X : Cx} {u : U} {S : Sto} {z : Rz} {H : Hp} {v : V} {s : Src} (e : seqL u S = some s) (so : SO X.K z H S) (r : RU X.K z H u v) : ∃ a vs, v = .ref a ∧ SqL X.K H a vs ∧ vs.length = s.1.length ∧
    ∀ (z2 : Rz) (H2 : Hp) (S2 : Sto), Grow z H z2 H2 → SO X.K z2 H2 S2 → still s.2 S2 → ∃ vs, SqL X.K H2 a vs ∧ RpAll X.K (Im z2 H2) vs s.1 := by
  cases u with
  | d y =>
    cases y with
    | list xs =>
      cases e
      cases r with
      | lst hp ra => exact ⟨_, _, rfl, SqL.of (Im.le _ _ hp), ra.length, fun z2 H2 S2 g _ _ => ⟨_, SqL.of (Im.le _ _ (g.im _ _ hp)), RpAll.mono g.im _ _ ra⟩⟩
    | _ => cases e
  | k xs =>
    cases e
    obtain ⟨a, vs, rfl, hp, ra⟩ := r
    exact ⟨_, _, rfl, Im.le.sqL hp, ra.length, fun z2 H2 S2 g _ _ => ⟨_, Im.le.sqL (g.im.sqL hp), RpAll.mono g.im _ _ ra⟩⟩
  | r i =>
    obtain ⟨xs, hi, rfl⟩ : ∃ ys, S[i]? = some (some ys) ∧ s = (ys, [(i, ys)]) := by
      unfold seqL at e
      cases q : S[i]? with
      | none => simp [q] at e
      | some c =>
        cases c with
        | none => simp [q] at e
        | some ys =>
          simp only [q, Option.some.injEq] at e
          exact ⟨ys, rfl, e.symm⟩
    obtain ⟨p, vs, rfl, hc, hp, ra⟩ := own_ok (X := X) hi so r
    refine ⟨_, _, rfl, SqL.of hp, ra.length, fun z2 H2 S2 g so2 st => ?_⟩
    obtain ⟨p2, vs2, e2, hc2, hp2, ra2⟩ := own_ok (X := X) (st (i, xs) (by simp)) so2 (r.grow g)
    cases e2
    exact ⟨_, SqL.of hp2, ra2⟩
theorem RpAll.rev {K : PySem.W.Frag} {H : Hp} : ∀ {vs : List V} {ds : List D}, RpAll K H vs ds → RpAll K H vs.reverse ds.reverse
  | _, _, .nil => .nil
  | _, _, .cons r rs => by
    rw [List.reverse_cons, List.reverse_cons]
    exact (RpAll.rev rs).append (.cons r .nil)
theorem seq_two {u : U} {S : Sto} {s : Src} (e : seqD u S = some s) : seqL u S = some s ∨ ∃ xs, u = .d (.tuple xs) ∧ s = (xs, []) := by
  cases u with
  | d y =>
    cases y with
    | list xs => exact .inl e
    | tuple xs => cases e; exact .inr ⟨xs, rfl, rfl⟩
    | _ => cases e
  | k xs => exact .inl e
  | r i => exact .inl e
theorem sndP {e : Expr} {x : Ex} (h : SndE B k c e x) (he : ∀ (env : PySem.Env) (whole : Sem Value), isTrue e env whole = (do let v ← whole; standAt e.pos; holding [v] (truthy v))) : SndE B k c e x ∧ SndT B k c e x := ⟨h, sndT_of h he⟩
theorem CTs.len {c : Sc} (env : PySem.Env) : ∀ {es : List Expr} {ts : Tgs}, CTs c es ts → (assignEach es env).length = es.length ∧ (assignEach es env).findIdx? (·.1) = none
  | [], _, _ => ⟨rfl, rfl⟩
  | e :: es, _, h => by
    cases h with
    | cons h g =>
      obtain ⟨h1, h2⟩ := CTs.len env g
      have hs : assignEach (e :: es) env = (false, assign e env) :: assignEach es env := by cases h <;> rfl
      rw [hs]
      refine ⟨by simp [h1], ?_⟩
      rw [List.findIdx?_cons]
      simp [h2]
theorem CTs.ds {c : Sc} {C : Calls} : ∀ {es : List Expr} {ts : Tgs} {ds : List D} {env env' : Env} {S S' : Sto}, CTs c es ts → asgTs ts C ds env S = .ok env' S' → ds.length = es.length
  | [], _, ds, _, _, _, _, h, e => by
    cases h
    unfold asgTs at e
    split at e
    · rfl
    · cases e
  | _ :: es, _, ds, _, _, _, _, h, e => by
    cases h with
    | cons h g =>
      unfold asgTs at e
      split at e
      · obtain ⟨e1, S1, e2, e3⟩ := bind_ok e
        simp [CTs.ds g e3]
      · cases e
theorem Cw.glo {C : Calls} {X : Cx} (cw : Cw B k c C X) {x : Str} (h : GlS c x) : Gl X x := by
  show X.env.scope.names.lookup x = _
  rw [cw.sc]
  exact h.1
theorem Cw.free {C : Calls} {X : Cx} (cw : Cw B k c C X) {x : Str} (h : x ∈ ["len", "all", "any", "tuple", "list", "abs", "min", "max", "int", "repr", "sum", "divmod", "bool", "isinstance", "str", "range", "enumerate", "zip", "reversed"].map Str.ofString) : X.mg x = none := by
  rw [cw.of.mg]
  exact cw.gl.bl x h
theorem bf_in {f : Bf} (h : bfFree f = true) : bfName f ∈ ["len", "all", "any", "tuple", "list", "abs", "min", "max", "int", "repr", "sum", "divmod", "bool", "isinstance", "str", "range", "enumerate", "zip", "reversed"].map Str.ofString := by
  cases f <;> first | (cases h; done) | (simp [bfName])
theorem ty_in (t : Ty) : tyS t ∈ ["len", "all", "any", "tuple", "list", "abs", "min", "max", "int", "repr", "sum", "divmod", "bool", "isinstance", "str", "range", "enumerate", "zip", "reversed"].map Str.ofString := by
  cases t <;> simp [tyS]
theorem ty_pe {X : Cx} {t : Ty} {p : Pos} (hg : Gl X (tyS t)) (hm : X.mg (tyS t) = none) : PE X (.Name (tyS t) p) (tC (.ty (tyN t))) := by
  cases t with
  | int => exact pe_bltn (u := .type "int") hg hm (by decide +kernel) rfl
  | bool => exact pe_bltn (u := .type "bool") hg hm (by decide +kernel) rfl
  | tuple => exact pe_bltn (u := .type "tuple") hg hm (by decide +kernel) rfl
  | list => exact pe_bltn (u := .type "list") hg hm (by decide +kernel) rfl
  | str => exact pe_bltn (u := .type "str") hg hm (by decide +kernel) rfl
theorem evEs_len : ∀ {xs : Exs} {C : Calls} {env : Env} {S S' : Sto} {us : List U}, evEs xs C env S = .ok us S' → us.length = xs.length
  | .nil, _, _, _, _, _, e => by unfold evEs at e; cases e; rfl
  | .cons _ xs, _, _, _, _, _, e => by
    unfold evEs at e
    obtain ⟨u, S1, e1, e⟩ := bind_ok e
    obtain ⟨us, S2, e2, e⟩ := bind_ok e
    cases e
    simp [Exs.length, evEs_len e2]
theorem CEs.len {c : Sc} : ∀ {es : List Expr} {xs : Exs}, CEs c es xs → xs.length = es.length
  | [], _, h => by cases h; rfl
  | _ :: _, _, h => by cases h with | cons _ g => simp [Exs.length, CEs.len g]
theorem CKs.len {c : Sc} : ∀ {ks : List Keyword} {ns : List Str} {xs : Exs}, CKs c ks ns xs → xs.length = ns.length
  | [], _, _, h => by cases h; rfl
  | _ :: _, _, _, h => by cases h with | cons _ g => simp [Exs.length, CKs.len g]
/-- a def's call -/
theorem call_snd {m : Bool} {x : Str} {i : Nat} {p pos : Pos} {es : List Expr} {ks : List Keyword} {ns : List Str} {perm : List Nat} {xs ys : Exs} (h : GlS c x) (e : c.fs[i]? = some x) (g : CEs c es xs) (gk : CKs c ks ns ys) (pt : (i, es.length, ns, perm) ∈ c.pt)
    (sA : SndA B k c es xs) (sK : SndK B k c ks ns ys) {C : Calls} {X : Cx} (cw : Cw B k c C X) {env : Env} {S S1 S2 S' : Sto} {us kv : List U} {u : U} {z : Rz} {σ : L2.St} {H : Hp} {Q : VK} (e1 : evEs xs C env S = .ok us S1) (e2 : evEs ys C env S1 = .ok kv S2)
    (e3 : C i (permU us perm kv) S2 = .ok u S') (hn : EnvOk X.K z H env σ) (so : SO X.K z H S) (q : Aft X.K z H S' u Q) : wE X (.Call (.Name x p) es ks pos) σ H Q := by
  obtain ⟨a, hm, hk, hc⟩ := cw.call i es.length ns perm x pt e
  have hm' : X.mg x = some (.ref a) := by rw [cw.of.mg]; exact hm
  have hk' : PySem.W.keepIn X.K (.ref a) = true := by rw [cw.of.K]; exact hk
  have l1 : us.length = es.length := (evEs_len e1).trans g.len
  have l2 : kv.length = ns.length := (evEs_len e2).trans gk.len
  have fin : ∀ {z2 : Rz} {H2 : Hp} {vs zs : List V}, Ext z H z2 H2 → SO X.K z2 H2 S2 → RUs X.K z2 H2 us vs → RUs X.K z2 H2 kv zs → wK X (.ref a) ns vs zs H2 Q := fun x2 so2 r1 r2 =>
    hc X cw.of cw.gd cw.room us kv S2 S' u _ _ _ _ Q l1 l2 e3 so2 r1 r2 fun z' H' v a b c => q z' H' v (x2.trans a) b c
  obtain ⟨k1, k2, k3⟩ := CKs.some X.env pos gk
  cases g with
  | nil =>
    unfold evEs at e1
    cases e1
    cases gk with
    | nil =>
      unfold evEs at e2
      cases e2
      exact call0 (cw.glo h) h.2 hm' hk' (fin Ext.refl so rfl rfl)
    | cons hh gg =>
      refine callK0 (cw.glo h) h.2 hm' hk' k1 k2 k3 ?_
      exact sK C X cw env S S2 kv z σ H _ e2 hn so fun z2 H2 zs x2 so2 r2 _ => fin x2 so2 rfl r2
  | cons h1 g1 =>
    cases gk with
    | nil =>
      unfold evEs at e2
      cases e2
      refine callA (cw.glo h) h.2 hm' hk' (h1.star _ _) (CEs.nostar _ _ g1) ?_
      exact sA C X cw env S _ us z σ H _ e1 hn so fun z1 H1 vs x1 so1 r1 => fin x1 so1 r1 rfl
    | cons hh gg =>
      refine callAK (cw.glo h) h.2 hm' hk' (h1.star _ _) (CEs.nostar _ _ (.cons h1 g1)) k1 k2 k3 ?_
      refine sA C X cw env S S1 us z σ H _ e1 hn so fun z1 H1 vs x1 so1 r1 => ?_
      exact sK C X cw env S1 S2 kv z1 σ H1 _ e2 (hn.mono x1) so1 fun z2 H2 zs x2 so2 r2 _ => fin (x1.trans x2) so2 (r1.mono x2) r2
theorem aft_tr {K : PySem.W.Frag} {z z1 : Rz} {H H1 : Hp} {S : Sto} {u : U} {Q : VK} (q : Aft K z H S u Q) (x : Ext z H z1 H1) : Aft K z1 H1 S u Q := fun z' H' v a b c => q z' H' v (x.trans a) b c
mutual
theorem snd_e : ∀ {c : Sc} {m : Bool} {e : Expr} {x : Ex}, CE c m e x → SndE B k c e x ∧ SndT B k c e x
  | c, m, _, _, .var h v d d2 => by
    refine sndP ?_ fun _ _ => rfl
    · intro C X cw env S S' u z σ H Q e hn so q
      unfold evE at e
      split at e
      · rename_i u' hu
        cases e
        obtain ⟨w, h1, h2⟩ := hn.2 _ _ hu
        exact PE.use (pe_var (by rw [cw.nN]; exact h) (by rw [cw.sc]; exact v) d d2) ⟨w, h1, q z H w Ext.refl so h2⟩
      · cases e
  | c, m, _, _, .gvar h e0 => by
    refine sndP ?_ fun _ _ => rfl
    · intro C X cw env S S' u z σ H Q e hn so q
      unfold evE at e
      cases e
      obtain ⟨u', v, h1, h2, h3⟩ := cw.gl.cs _ _ e0
      refine PE.use (pe_glob (cw.glo h) (by rw [cw.of.mg]; exact h1) h2 h.2) (q z H v Ext.refl so (Rp.mono (H := fun _ => none) (by intro b o h; cases h) _ _ ?_))
      rw [cw.of.K]
      exact h3
  | c, m, _, _, .int => by
    refine sndP ?_ fun _ _ => rfl
    · intro C X cw env S S' u z σ H Q e hn so q
      unfold evE at e
      cases e
      exact PE.use pe_int (q z H _ Ext.refl so (.int _))
  | c, m, _, _, .str => by
    refine sndP ?_ fun _ _ => rfl
    · intro C X cw env S S' u z σ H Q e hn so q
      unfold evE at e
      cases e
      exact PE.use pe_str (q z H _ Ext.refl so (.str _))
  | c, m, _, _, .bl => by
    refine sndP ?_ fun _ _ => rfl
    · intro C X cw env S S' u z σ H Q e hn so q
      unfold evE at e
      cases e
      exact PE.use pe_bl (q z H _ Ext.refl so (.bl _))
  | c, m, _, _, .non => by
    refine sndP ?_ fun _ _ => rfl
    · intro C X cw env S S' u z σ H Q e hn so q
      unfold evE at e
      cases e
      exact PE.use pe_non (q z H _ Ext.refl so .non)
  | c, m, _, _, .bin h g => by
    have ia := (snd_e h).1
    have ib := (snd_e g).1
    refine sndP ?_ fun _ _ => rfl
    · intro C X cw env S S' u z σ H Q e hn so q
      unfold evE at e
      obtain ⟨x1, S1, e1, e⟩ := bind_ok e
      obtain ⟨y1, S2, e2, e⟩ := bind_ok e
      refine PE.use (pe_op op_w pe_q pe_q) ?_
      refine ia C X cw env S S1 x1 z σ H _ e1 hn so fun z1 H1 v1 a1 so1 r1 => ?_
      refine ib C X cw env S1 S2 y1 z1 σ H1 _ e2 (hn.mono a1) so1 fun z2 H2 v2 a2 so2 r2 => ?_
      exact bin_ok e so2 (r1.mono a2) r2 (aft_tr q (a1.trans a2))
  | c, m, _, _, .neg h => by
    have ia := (snd_e h).1
    refine sndP ?_ fun _ _ => rfl
    · intro C X cw env S S' u z σ H Q e hn so q
      unfold evE at e
      obtain ⟨x1, S1, e1, e⟩ := bind_ok e
      split at e
      · cases e
        refine PE.use (pe_un un_neg pe_q) ?_
        refine ia C X cw env S _ _ z σ H _ e1 hn so fun z1 H1 v1 a1 so1 r1 => ?_
        cases r1
        exact ⟨_, rfl, q z1 H1 _ a1 so1 (.int _)⟩
      · cases e
  | c, m, _, _, .not h => by
    obtain ⟨ia, it⟩ := snd_e h
    refine ⟨?_, ?_⟩
    · intro C X cw env S S' u z σ H Q e hn so q
      unfold evE at e
      obtain ⟨b, S1, e1, e⟩ := bind_ok e
      obtain ⟨x1, S2, e2, e3⟩ := bind_ok e1
      cases e
      refine PE.use (pe_notT pe_q) ?_
      refine ia C X cw env S S2 x1 z σ H _ e2 hn so fun z1 H1 v1 a1 so1 r1 => ?_
      obtain ⟨rfl, tv⟩ := tru_w e3 so1 r1
      exact ⟨b, tv, q z1 H1 _ a1 so1 (.bl _)⟩
    · intro C X cw env S S' b z σ H Q e hn so q
      obtain ⟨u, S1, e1, e2⟩ := bind_ok e
      unfold evE at e1
      obtain ⟨b1, S2, e3, e1⟩ := bind_ok e1
      cases e1
      cases e2
      exact PT.use (pt_not pt_q) (it C X cw env S _ b1 z σ H _ e3 hn so q)
  | c, m, _, _, @CE.one _ _ op a x pos h => by
    obtain ⟨ia, it⟩ := snd_e h
    refine ⟨?_, ?_⟩
    · intro C X cw env S S' u z σ H Q e hn so q
      exact PE.use (pe_one pe_q) (ia C X cw env S S' u z σ H Q e hn so q)
    · intro C X cw env S S' b z σ H Q e hn so q
      cases op with
      | And => exact PT.use (PW.pt (pw_and1 pt_q)) (it C X cw env S S' b z σ H Q e hn so q)
      | Or => exact PT.use (PW.pt (pw_or1 pt_q)) (it C X cw env S S' b z σ H Q e hn so q)
  | c, m, _, _, @CE.and _ _ _ _ _ x y _ h g => by
    obtain ⟨ia, ta⟩ := snd_e h
    obtain ⟨ib, tb⟩ := snd_e g
    refine ⟨?_, ?_⟩
    · intro C X cw env S S' u z σ H Q e hn so q
      unfold evE at e
      obtain ⟨x1, S1, e1, e⟩ := bind_ok e
      obtain ⟨t, S2, e2, e⟩ := bind_ok e
      refine PE.use (pe_andT pe_q pe_q) ?_
      refine ia C X cw env S S1 x1 z σ H _ e1 hn so fun z1 H1 v1 a1 so1 r1 => ?_
      obtain ⟨rfl, tv⟩ := tru_w e2 so1 r1
      refine ⟨t, tv, ?_⟩
      cases t with
      | true =>
        rw [if_pos rfl] at e ⊢
        exact ib C X cw env _ S' u z1 σ H1 Q e (hn.mono a1) so1 (aft_tr q a1)
      | false =>
        rw [if_neg (by decide)] at e ⊢
        cases e
        exact q z1 H1 v1 a1 so1 r1
    · intro C X cw env S S' b z σ H Q e hn so q
      obtain ⟨u, S1, e1, e2⟩ := bind_ok e
      unfold evE at e1
      obtain ⟨x1, S2, e3, e1⟩ := bind_ok e1
      obtain ⟨t, S3, e4, e1⟩ := bind_ok e1
      have ht : evT x C env S = .ok t S3 := by show (evE x C env S).bind tru = _; rw [e3]; exact e4
      refine PT.use (PW.pt (pw_and pt_q pw_q)) (ta C X cw env S S3 t z σ H _ ht hn so fun z1 H1 a1 so1 => ?_)
      cases t with
      | true =>
        rw [if_pos rfl] at e1 ⊢
        have hb : evT y C env S3 = .ok b S' := by show (evE y C env S3).bind tru = _; rw [e1]; exact e2
        exact tb C X cw env S3 S' b z1 σ H1 Q hb (hn.mono a1) so1 fun z' H' a2 so2 => q z' H' (a1.trans a2) so2
      | false =>
        rw [if_neg (by decide)] at e1 ⊢
        cases e1
        have hs := tru_same e4
        subst hs
        rw [e4] at e2
        cases e2
        exact q z1 H1 a1 so1
  | c, m, _, _, @CE.or _ _ _ _ _ x y _ h g => by
    obtain ⟨ia, ta⟩ := snd_e h
    obtain ⟨ib, tb⟩ := snd_e g
    refine ⟨?_, ?_⟩
    · intro C X cw env S S' u z σ H Q e hn so q
      unfold evE at e
      obtain ⟨x1, S1, e1, e⟩ := bind_ok e
      obtain ⟨t, S2, e2, e⟩ := bind_ok e
      refine PE.use (pe_orT pe_q pe_q) ?_
      refine ia C X cw env S S1 x1 z σ H _ e1 hn so fun z1 H1 v1 a1 so1 r1 => ?_
      obtain ⟨rfl, tv⟩ := tru_w e2 so1 r1
      refine ⟨t, tv, ?_⟩
      cases t with
      | true =>
        rw [if_pos rfl] at e ⊢
        cases e
        exact q z1 H1 v1 a1 so1 r1
      | false =>
        rw [if_neg (by decide)] at e ⊢
        exact ib C X cw env _ S' u z1 σ H1 Q e (hn.mono a1) so1 (aft_tr q a1)
    · intro C X cw env S S' b z σ H Q e hn so q
      obtain ⟨u, S1, e1, e2⟩ := bind_ok e
      unfold evE at e1
      obtain ⟨x1, S2, e3, e1⟩ := bind_ok e1
      obtain ⟨t, S3, e4, e1⟩ := bind_ok e1
      have ht : evT x C env S = .ok t S3 := by show (evE x C env S).bind tru = _; rw [e3]; exact e4
      refine PT.use (PW.pt (pw_or pt_q pw_q)) (ta C X cw env S S3 t z σ H _ ht hn so fun z1 H1 a1 so1 => ?_)
      cases t with
      | true =>
        rw [if_pos rfl] at e1 ⊢
        cases e1
        have hs := tru_same e4
        subst hs
        rw [e4] at e2
        cases e2
        exact q z1 H1 a1 so1
      | false =>
        rw [if_neg (by decide)] at e1 ⊢
        have hb : evT y C env S3 = .ok b S' := by show (evE y C env S3).bind tru = _; rw [e1]; exact e2
        exact tb C X cw env S3 S' b z1 σ H1 Q hb (hn.mono a1) so1 fun z' H' a2 so2 => q z' H' (a1.trans a2) so2
  | c, m, _, _, .cmp h g hm => by
    have ia := (snd_e h).1
    have ib := (snd_e g).1
    refine ⟨?_, ?_⟩
    · intro C X cw env S S' u z σ H Q e hn so q
      unfold evE at e
      obtain ⟨x1, S1, e1, e⟩ := bind_ok e
      obtain ⟨y1, S2, e2, e⟩ := bind_ok e
      split at e
      · rename_i t ht
        cases e
        refine PE.use (pe_cmpR op_w pe_q pe_q hm) ?_
        refine ia C X cw env S S1 x1 z σ H _ e1 hn so fun z1 H1 v1 a1 so1 r1 => ?_
        refine ib C X cw env S1 _ y1 z1 σ H1 _ e2 (hn.mono a1) so1 fun z2 H2 v2 a2 so2 r2 => ?_
        exact cmp_ok cw.gd ht so2 (r1.mono a2) r2 (q z2 H2 _ (a1.trans a2) so2 (.bl _))
      · cases e
    · intro C X cw env S S' b z σ H Q e hn so q
      obtain ⟨u, S3, e, e3⟩ := bind_ok e
      unfold evE at e
      obtain ⟨x1, S1, e1, e⟩ := bind_ok e
      obtain ⟨y1, S2, e2, e⟩ := bind_ok e
      split at e
      · rename_i t ht
        cases e
        cases e3
        refine PT.use (pt_cmpR op_w pe_q pe_q hm) ?_
        refine ia C X cw env S S1 x1 z σ H _ e1 hn so fun z1 H1 v1 a1 so1 r1 => ?_
        refine ib C X cw env S1 _ y1 z1 σ H1 _ e2 (hn.mono a1) so1 fun z2 H2 v2 a2 so2 r2 => ?_
        exact cmp_ok cw.gd ht so2 (r1.mono a2) r2 ⟨_, rfl, q z2 H2 (a1.trans a2) so2⟩
      · cases e
  | c, m, _, _, @CE.cmp2 _ _ op op2 a b d x y w pos h g i hm => by
    have ia := (snd_e h).1
    have ib := (snd_e g).1
    have ic := (snd_e i).1
    have core : ∀ (C : Calls) (X : Cx), Cw B k c C X → ∀ (env : Env) (S S' : Sto) (u : U) (z : Rz) (σ : L2.St) (H : Hp) (Q : VK), evE (.cmp2 op op2 x y w) C env S = .ok u S' → EnvOk X.K z H env σ → SO X.K z H S → Aft X.K z H S' u Q →
        (tChain (fun x y H Q => wO X (compareOp op) x y H Q) (fun x y H Q => wO X (compareOp op2) x y H Q) (wE X a) (wE X b) (wE X d)) σ H Q := by
      intro C X cw env S S' u z σ H Q e hn so q
      unfold evE at e
      obtain ⟨x1, S1, e1, e⟩ := bind_ok e
      obtain ⟨y1, S2, e2, e⟩ := bind_ok e
      refine ia C X cw env S S1 x1 z σ H _ e1 hn so fun z1 H1 v1 a1 so1 r1 => ?_
      refine ib C X cw env S1 S2 y1 z1 σ H1 _ e2 (hn.mono a1) so1 fun z2 H2 v2 a2 so2 r2 => ?_
      have a12 := a1.trans a2
      split at e
      · rename_i ht
        obtain ⟨z3, S3, e3, e⟩ := bind_ok e
        refine cmp_ok cw.gd ht so2 (r1.mono a2) r2 ⟨true, rfl, ?_⟩
        rw [if_pos rfl]
        refine ic C X cw env S2 S3 z3 z2 σ H2 _ e3 (hn.mono a12) so2 fun z4 H3 v3 a3 so3 r3 => ?_
        split at e
        · rename_i t ht2
          cases e
          exact cmp_ok cw.gd ht2 so3 (r2.mono a3) r3 (q z4 H3 _ (a12.trans a3) so3 (.bl _))
        · cases e
      · rename_i ht
        cases e
        refine cmp_ok cw.gd ht so2 (r1.mono a2) r2 ⟨false, rfl, ?_⟩
        rw [if_neg (by decide)]
        exact q z2 H2 _ a12 so2 (.bl _)
      · cases e
    refine ⟨?_, ?_⟩
    · intro C X cw env S S' u z σ H Q e hn so q
      exact PE.use (pe_chain op_w op_w pe_q pe_q pe_q hm) (core C X cw env S S' u z σ H Q e hn so q)
    · intro C X cw env S S' b z σ H Q e hn so q
      obtain ⟨u, S3, e, e3⟩ := bind_ok e
      refine PT.use (pt_chain op_w op_w pe_q pe_q pe_q hm) (core C X cw env S S3 u z σ H _ e hn so fun z' H' v a1 so1 r1 => ?_)
      have hu : ∃ t, u = .d (.bool t) := by
        unfold evE at e
        obtain ⟨x1, S1, e1, e⟩ := bind_ok e
        obtain ⟨y1, S2, e2, e⟩ := bind_ok e
        split at e
        · obtain ⟨z3, S3, e3, e⟩ := bind_ok e
          split at e
          · cases e; exact ⟨_, rfl⟩
          · cases e
        · cases e; exact ⟨_, rfl⟩
        · cases e
      obtain ⟨t, rfl⟩ := hu
      cases e3
      cases r1
      exact ⟨_, rfl, q z' H' a1 so1⟩
  | c, m, _, _, @CE.ite _ _ _ _ _ x y w _ h g i => by
    have it := (snd_e h).2
    obtain ⟨ia, ta⟩ := snd_e g
    obtain ⟨ib, tb⟩ := snd_e i
    refine ⟨?_, ?_⟩
    · intro C X cw env S S' u z σ H Q e hn so q
      unfold evE at e
      obtain ⟨t, S1, e1, e⟩ := bind_ok e
      refine PE.use (pe_ifExp pt_q pe_q pe_q) (it C X cw env S S1 t z σ H _ e1 hn so fun z1 H1 a1 so1 => ?_)
      cases t with
      | true =>
        rw [if_pos rfl] at e ⊢
        exact ia C X cw env S1 S' u z1 σ H1 Q e (hn.mono a1) so1 (aft_tr q a1)
      | false =>
        rw [if_neg (by decide)] at e ⊢
        exact ib C X cw env S1 S' u z1 σ H1 Q e (hn.mono a1) so1 (aft_tr q a1)
    · intro C X cw env S S' b z σ H Q e hn so q
      obtain ⟨u, S3, e, e3⟩ := bind_ok e
      unfold evE at e
      obtain ⟨t, S1, e1, e⟩ := bind_ok e
      refine PT.use pt_ite (it C X cw env S S1 t z σ H _ e1 hn so fun z1 H1 a1 so1 => ?_)
      cases t with
      | true =>
        rw [if_pos rfl] at e ⊢
        have hb : evT y C env S1 = .ok b S' := by show (evE y C env S1).bind tru = _; rw [e]; exact e3
        exact ta C X cw env S1 S' b z1 σ H1 Q hb (hn.mono a1) so1 fun z' H' a2 so2 => q z' H' (a1.trans a2) so2
      | false =>
        rw [if_neg (by decide)] at e ⊢
        have hb : evT w C env S1 = .ok b S' := by show (evE w C env S1).bind tru = _; rw [e]; exact e3
        exact tb C X cw env S1 S' b z1 σ H1 Q hb (hn.mono a1) so1 fun z' H' a2 so2 => q z' H' (a1.trans a2) so2
  | c, m, _, _, .call h e0 g pt => by
    have sA := snd_es g
    refine sndP ?_ fun _ _ => rfl
    · intro C X cw env S S' u z σ H Q e hn so q
      unfold evE at e
      obtain ⟨us, S1, e1, e⟩ := bind_ok e
      refine call_snd (ks := []) (ns := []) (perm := []) (ys := .nil) (kv := []) (m := m) h e0 g .nil pt sA (fun C X cw env S S' us z σ H Q e hn so q => ?_) cw e1 (by unfold evEs; rfl) (by unfold permU; rw [List.filterMap_nil, List.append_nil]; exact e) hn so q
      unfold evEs at e
      cases e
      exact PK.use pk_nil (q z H [] Ext.refl so rfl rfl)
  | c, m, _, _, .callk h e0 g gk pt => by
    have sA := snd_es g
    have sK := snd_ks gk
    refine sndP ?_ fun _ _ => rfl
    · intro C X cw env S S' u z σ H Q e hn so q
      unfold evE at e
      obtain ⟨us, S1, e1, e⟩ := bind_ok e
      obtain ⟨kv, S2, e2, e⟩ := bind_ok e
      exact call_snd (m := m) h e0 g gk pt sA sK cw e1 e2 e hn so q
  | c, m, _, _, @CE.blt _ _ x f p pos e0 es xs h hb hl g => by
    have sA := snd_es g
    refine sndP ?_ fun _ _ => rfl
    · intro C X cw env S S' u z σ H Q e hn so q
      unfold evE at e
      obtain ⟨us, S1, e1, e9⟩ := bind_ok e
      cases g with
      | cons h1 g1 =>
        refine PE.use (blt_pe (f := f) (cw.glo h) h.2 ?_ (h1.star _ _) (CEs.nostar _ _ g1)) ?_
        · rcases hb with ⟨hf, rfl⟩ | hf
          · exact .inl ⟨hf, rfl, cw.free (bf_in hf)⟩
          · obtain ⟨h3, h4⟩ := cw.gl.ms _ _ hf
            exact .inr ⟨by rw [cw.of.mg]; exact h3, h4⟩
        · exact sA C X cw env S S1 us z σ H _ e1 hn so fun z1 H1 vs a1 so1 r1 => blt_ok cw.gd e9 so1 r1 (aft_tr q a1)
  | c, m, _, _, .isi h h2 g => by
    have ia := (snd_e g).1
    refine sndP ?_ fun _ _ => rfl
    · intro C X cw env S S' u z σ H Q e hn so q
      unfold evE at e
      obtain ⟨x1, S1, e1, e⟩ := bind_ok e
      split at e
      · rename_i d hd
        cases e
        refine PE.use (pe_callB (id := "isinstance") call_w (cw.glo h) (cw.free (by simp)) (by decide +kernel) (pa_cons pe_q (pa_cons (ty_pe (cw.glo h2) (cw.free (ty_in _))) pa_nil) (g.star _ _)) (by decide) h.2 (g.star _ _) rfl) ?_
        refine ia C X cw env S _ x1 z σ H _ e1 hn so fun z1 H1 v1 a1 so1 r1 => ?_
        exact isi_ok hd so1 r1 (q z1 H1 _ a1 so1 (.bl _))
      · cases e
  | c, m, _, _, .idx h g => by
    have ia := (snd_e h).1
    have ib := (snd_e g).1
    refine sndP ?_ fun _ _ => rfl
    · intro C X cw env S S' u z σ H Q e hn so q
      unfold evE at e
      obtain ⟨x1, S1, e1, e⟩ := bind_ok e
      obtain ⟨y1, S2, e2, e⟩ := bind_ok e
      refine PE.use (pe_ix ix_w pe_q pe_q g.plainIx) ?_
      refine ia C X cw env S S1 x1 z σ H _ e1 hn so fun z1 H1 v1 a1 so1 r1 => ?_
      refine ib C X cw env S1 S2 y1 z1 σ H1 _ e2 (hn.mono a1) so1 fun z2 H2 v2 a2 so2 r2 => ?_
      exact idx_ok e so2 (r1.mono a2) r2 (aft_tr q (a1.trans a2))
  | c, m, _, _, .sl h g i => by
    have ia := (snd_e h).1
    have ib := snd_o g
    have ic := snd_o i
    refine sndP ?_ fun _ _ => rfl
    · intro C X cw env S S' u z σ H Q e hn so q
      unfold evE at e
      obtain ⟨x1, S1, e1, e⟩ := bind_ok e
      obtain ⟨lo, S2, e2, e⟩ := bind_ok e
      obtain ⟨hi, S3, e3, e⟩ := bind_ok e
      refine PE.use (pe_slice sl_w pe_q po_q po_q) ?_
      refine ia C X cw env S S1 x1 z σ H _ e1 hn so fun z1 H1 v1 a1 so1 r1 => ?_
      refine ib C X cw env S1 S2 lo z1 σ H1 _ e2 (hn.mono a1) so1 fun z2 H2 a2 so2 => ?_
      have a12 := a1.trans a2
      refine ic C X cw env S2 S3 hi z2 σ H2 _ e3 (hn.mono a12) so2 fun z3 H3 a3 so3 => ?_
      exact sl_ok e so3 (r1.mono (a2.trans a3)) (aft_tr q (a12.trans a3))
  | c, m, _, _, .tup g => by
    have sA := snd_es g
    refine sndP ?_ fun _ _ => rfl
    · intro C X cw env S S' u z σ H Q e hn so q
      unfold evE at e
      obtain ⟨us, S1, e1, e⟩ := bind_ok e
      obtain ⟨ds, S2, e2, e⟩ := bind_ok e
      split at e
      · rename_i hz
        cases e
        refine PE.use (pe_tup pa_q) ?_
        refine sA C X cw env S S1 us z σ H _ e1 hn so fun z1 H1 vs a1 so1 r1 => ?_
        obtain ⟨z2, a2, so2, ra⟩ := frzs_ok e2 so1 r1
        exact ⟨by rw [ra.length]; exact hz, fun p hp => new_tup so2 hp ra (aft_tr q (a1.trans a2))⟩
      · cases e
  | c, m, _, _, .lst g => by
    have sA := snd_es g
    refine sndP ?_ fun _ _ => rfl
    · intro C X cw env S S' u z σ H Q e hn so q
      unfold evE at e
      obtain ⟨us, S1, e1, e⟩ := bind_ok e
      obtain ⟨ds, S2, e2, e⟩ := bind_ok e
      split at e
      · rename_i hz
        refine PE.use (pe_lst pa_q) ?_
        refine sA C X cw env S S1 us z σ H _ e1 hn so fun z1 H1 vs a1 so1 r1 => ?_
        obtain ⟨z2, a2, so2, ra⟩ := frzs_ok e2 so1 r1
        exact ⟨by rw [ra.length]; exact hz, fun p hp => new_lst e so2 hp ra (aft_tr q (a1.trans a2))⟩
      · cases e
  | c, m, _, _, @CE.comp _ _ elt tg iter ifs scope own pos t it fs x ok hi ht hw hf he hs => sndP (comp_snd (m := m) (pos := pos) ok hw hs (snd_i hi) (snd_g ht) (snd_f hf) (snd_e he).1) fun _ _ => rfl
  | c, m, _, _, @CE.meth _ _ f o x es xs apos pos hf h g hl hc hln => by
    have ia := (snd_e h).1
    have sA := snd_es g
    refine sndP ?_ fun _ _ => rfl
    · intro C X cw env S S' u z σ H Q e hn so q
      unfold evE at e
      obtain ⟨x1, S1, e1, e⟩ := bind_ok e
      split at e
      · rename_i src hsrc
        obtain ⟨us, S2, e2, e9⟩ := bind_ok e
        obtain ⟨i, rfl⟩ : ∃ i, x1 = .r i := by
          cases x1 with
          | r i => exact ⟨i, rfl⟩
          | d _ => unfold methU at e9; cases e9
          | k _ => unfold methU at e9; cases e9
        obtain ⟨ys, hys, _⟩ := seqD_r hsrc
        cases g with
        | nil =>
          unfold evEs at e2
          cases e2
          have rd : wE X o σ H (fun v1 H1 => tyV X.K "list" v1 H1 ∧ wM X (mtN f) v1 [] H1 Q) := by
            refine ia C X cw env S _ _ z σ H _ e1 hn so fun z1 H1 v1 a1 so1 r1 => ?_
            obtain ⟨⟨ws, p, rfl, hp⟩, hm⟩ := meth_ok (vs := []) e9 so1 r1 rfl (aft_tr q a1)
            exact ⟨.inl ⟨rfl, ws, hp⟩, hm⟩
          cases f with
          | append => exact PE.use (pe_bm0 PySem.F.plainAttrs_list PySem.F.slot_list_append PySem.F.type_list_append mt_w pe_q (notCall_base hc _ _ _) hl) rd
          | extend => exact PE.use (pe_bm0 PySem.F.plainAttrs_list PySem.F.slot_list_extend PySem.F.type_list_extend mt_w pe_q (notCall_base hc _ _ _) hl) rd
          | pop => exact PE.use (pe_bm0 PySem.F.plainAttrs_list PySem.F.slot_list_pop PySem.F.type_list_pop mt_w pe_q (notCall_base hc _ _ _) hl) rd
          | insert => cases hf
          | popAt => cases hf
        | @cons _ _ e0 es0 x0 xs0 h1 g1 =>
          have rd : wE X o σ H (fun v1 H1 => tyV X.K "list" v1 H1 ∧ wA X (e0 :: es0) σ H1 fun vs H2 => wM X (mtN f) v1 vs H2 Q) := by
            refine ia C X cw env S _ _ z σ H _ e1 hn so fun z1 H1 v1 a1 so1 r1 => ?_
            obtain ⟨p, ws, rfl, hc1, hp, _⟩ := own_ok (X := X) hys so1 r1
            refine ⟨.inl ⟨rfl, ws, SqL.of hp⟩, ?_⟩
            refine sA C X cw env S1 S2 us z1 σ H1 _ e2 (hn.mono a1) so1 fun z2 H2 vs a2 so2 r2 => ?_
            exact (meth_ok e9 so2 (r1.mono a2) r2 (aft_tr q (a1.trans a2))).2
          have few : ∀ (e : Expr) (es : List Expr) (h1 : (backTo pos (starEach (e :: es) X.env)).all (fun x => !x.1) = true) (h2 : (e :: es).length < 20), ((backTo pos (starEach (e :: es) X.env)).all (fun x => !x.1) && (backToKw pos (keywordEach [] X.env)).all (fun x => x.1.isSome)
              && decide ((e :: es).length + ([] : List Keyword).length + (if ([] : List Keyword).isEmpty then 0 else 1) < 30)) = true := fun e es h1 h2 => by
            rw [h1]
            show (true && true && decide _) = true
            simp only [Bool.and_self, Bool.true_and, decide_eq_true_eq, List.length_nil, List.isEmpty_nil, if_true]
            omega
          cases f with
          | append => exact PE.use (pe_bm PySem.F.plainAttrs_list PySem.F.slot_list_append PySem.F.type_list_append mt_w pe_q pa_q (notCall_base hc _ _ _) (few _ _ (CEs.allplain _ _ (.cons h1 g1)) hln) hl (h1.star _ _) (CEs.nostar _ _ g1)) rd
          | extend => exact PE.use (pe_bm PySem.F.plainAttrs_list PySem.F.slot_list_extend PySem.F.type_list_extend mt_w pe_q pa_q (notCall_base hc _ _ _) (few _ _ (CEs.allplain _ _ (.cons h1 g1)) hln) hl (h1.star _ _) (CEs.nostar _ _ g1)) rd
          | pop => exact PE.use (pe_bm PySem.F.plainAttrs_list PySem.F.slot_list_pop PySem.F.type_list_pop mt_w pe_q pa_q (notCall_base hc _ _ _) (few _ _ (CEs.allplain _ _ (.cons h1 g1)) hln) hl (h1.star _ _) (CEs.nostar _ _ g1)) rd
          | insert => cases hf
          | popAt => cases hf
      · cases e
  | c, m, _, _, @CE.bits _ _ o x apos pos h hl hc => by
    have ia := (snd_e h).1
    refine sndP ?_ fun _ _ => rfl
    · intro C X cw env S S' u z σ H Q e hn so q
      unfold evE at e
      obtain ⟨x1, S1, e1, e⟩ := bind_ok e
      refine PE.use (pe_bits pe_q (notCall_base hc _ _ _) hl) ?_
      refine ia C X cw env S S1 x1 z σ H _ e1 hn so fun z1 H1 v1 a1 so1 r1 => ?_
      obtain ⟨rfl, i, rfl, rfl⟩ := op1_ok e so1 r1
      exact ⟨i, rfl, aft0 (aft_tr q a1) so1 (.int _)⟩
  | c, m, _, _, @CE.rev _ _ a x k p1 p2 p3 pos h => by
    have ia := (snd_e h).1
    refine sndP ?_ fun _ _ => rfl
    · intro C X cw env S S' u z σ H Q e hn so q
      unfold evE at e
      obtain ⟨x1, S1, e1, e⟩ := bind_ok e
      refine PE.use (pe_revL pe_q) ?_
      refine ia C X cw env S S1 x1 z σ H _ e1 hn so fun z1 H1 v1 a1 so1 r1 => ?_
      obtain ⟨rfl, xs, rfl, rfl⟩ := op1_ok e so1 r1
      cases r1 with
      | lst hp ra => exact ⟨_, _, rfl, SqL.of (Im.le _ _ hp), fun l hn => new_lst (m := false) rfl so1 hn ra.rev (aft_tr q a1)⟩
  | c, m, _, _, @CE.op2 _ _ f o e0 x y apos pos h g hl hc => by
    have ia := (snd_e h).1
    have ib := (snd_e g).1
    refine sndP ?_ fun _ _ => rfl
    · intro C X cw env S S' u z σ H Q e hn so q
      unfold evE at e
      obtain ⟨x1, S1, e1, e⟩ := bind_ok e
      split at e
      · rename_i src hsrc
        obtain ⟨y1, S2, e2, e9⟩ := bind_ok e
        have few : ((backTo pos (starEach [e0] X.env)).all (fun x => !x.1) && (backToKw pos (keywordEach [] X.env)).all (fun x => x.1.isSome)
              && decide (([e0] : List Expr).length + ([] : List Keyword).length + (if ([] : List Keyword).isEmpty then 0 else 1) < 30)) = true := by
          rw [CEs.allplain (c := c) _ _ (.cons g .nil)]
          rfl
        have rd : wE X o σ H (fun v1 H1 => tyV X.K "list" v1 H1 ∧ wA X [e0] σ H1 fun vs H2 => wM X (o2N f) v1 vs H2 Q) := by
          refine ia C X cw env S S1 x1 z σ H _ e1 hn so fun z1 H1 v1 a1 so1 r1 => ⟨?_, ?_⟩
          · obtain ⟨p, ws, rfl, hq, _⟩ := list_src hsrc so1 r1
            exact .inl ⟨rfl, ws, hq⟩
          · refine PA.use (pa_cons pe_q pa_nil (g.star _ _)) ?_
            refine ib C X cw env S1 S2 y1 z1 σ H1 _ e2 (hn.mono a1) so1 fun z2 H2 v2 a2 so2 r2 => ?_
            exact (op2_ok cw.gd e9 so2 (r1.mono a2) r2 (aft_tr q (a1.trans a2))).2
        cases f with
        | index => exact PE.use (pe_bm PySem.F.plainAttrs_list PySem.F.slot_list_index PySem.F.type_list_index mt_w pe_q pa_q (notCall_base hc _ _ _) few hl (g.star _ _) (CEs.nostar (c := c) _ _ .nil)) rd
        | count => exact PE.use (pe_bm PySem.F.plainAttrs_list PySem.F.slot_list_count PySem.F.type_list_count mt_w pe_q pa_q (notCall_base hc _ _ _) few hl (g.star _ _) (CEs.nostar (c := c) _ _ .nil)) rd
      · cases e
  | c, m, _, _, @CE.comp2 _ _ elt tg iter tg1 iter1 ifs ifs1 scope own vs1 pos t t1 it it1 fs fs1 x ok hi ht hw hf hv hi1 ht1 hw1 hf1 he hs hs1 =>
    sndP (comp2_snd (m := m) (pos := pos) ok hw hv hw1 hs hs1 (snd_i hi) (snd_g ht) (snd_f hf) (snd_i hi1) (snd_g ht1) (snd_f hf1) (snd_e he).1) fun _ _ => rfl
theorem snd_es : ∀ {c : Sc} {es : List Expr} {xs : Exs}, CEs c es xs → SndA B k c es xs
  | c, _, _, .nil => by
    intro C X cw env S S' us z σ H Q e hn so q
    unfold evEs at e
    cases e
    exact PA.use pa_nil (q z H [] Ext.refl so rfl)
  | c, _, _, .cons h g => by
    have ia := (snd_e h).1
    have ib := snd_es g
    intro C X cw env S S' us z σ H Q e hn so q
    unfold evEs at e
    obtain ⟨u, S1, e1, e⟩ := bind_ok e
    obtain ⟨us1, S2, e2, e⟩ := bind_ok e
    cases e
    refine PA.use (pa_cons pe_q pa_q (h.star _ _)) ?_
    refine ia C X cw env S S1 u z σ H _ e1 hn so fun z1 H1 v1 a1 so1 r1 => ?_
    refine ib C X cw env S1 _ us1 z1 σ H1 _ e2 (hn.mono a1) so1 fun z2 H2 vs a2 so2 r2 => ?_
    exact q z2 H2 _ (a1.trans a2) so2 ⟨v1, vs, rfl, r1.mono a2, r2⟩
theorem snd_ks : ∀ {c : Sc} {ks : List Keyword} {ns : List Str} {xs : Exs}, CKs c ks ns xs → SndK B k c ks ns xs
  | c, _, _, _, .nil => by
    intro C X cw env S S' us z σ H Q e hn so q
    unfold evEs at e
    cases e
    exact PK.use pk_nil (q z H [] Ext.refl so rfl rfl)
  | c, _, _, _, .cons h g => by
    have ia := (snd_e h).1
    have ib := snd_ks g
    intro C X cw env S S' us z σ H Q e hn so q
    unfold evEs at e
    obtain ⟨u, S1, e1, e⟩ := bind_ok e
    obtain ⟨us1, S2, e2, e⟩ := bind_ok e
    cases e
    refine PK.use (pk_cons pe_q pk_q) ?_
    refine ia C X cw env S S1 u z σ H _ e1 hn so fun z1 H1 v1 a1 so1 r1 => ?_
    refine ib C X cw env S1 _ us1 z1 σ H1 _ e2 (hn.mono a1) so1 fun z2 H2 vs a2 so2 r2 hl => ?_
    exact q z2 H2 _ (a1.trans a2) so2 ⟨v1, vs, rfl, r1.mono a2, r2⟩ (by simp [hl])
theorem snd_o : ∀ {c : Sc} {e : Option Expr} {x : Eo}, CO c e x → SndO B k c e x
  | c, _, _, .none => by
    intro C X cw env S S' o z σ H Q e hn so q
    unfold evO at e
    cases e
    exact PO.use po_none (q z H Ext.refl so)
  | c, _, _, .some h => by
    have ia := (snd_e h).1
    intro C X cw env S S' o z σ H Q e hn so q
    unfold evO at e
    obtain ⟨u, S1, e1, e⟩ := bind_ok e
    split at e
    · cases e
      refine PO.use (po_some pe_q) ?_
      refine ia C X cw env S _ _ z σ H _ e1 hn so fun z1 H1 v1 a1 so1 r1 => ?_
      cases r1
      exact ⟨_, rfl, q z1 H1 a1 so1⟩
    · cases e
theorem snd_i : ∀ {c : Sc} {tg e : Expr} {x : Itr}, CI c tg e x → SndI B k c tg e x
  | c, tg, _, _, .ex h => by
    have ia := (snd_e h).1
    intro C X cw env S S' src z σ H R e hn so q
    unfold evI at e
    obtain ⟨u, S1, e1, e⟩ := bind_ok e
    split at e
    · rename_i s0 hs0
      cases e
      cases u with
      | d y =>
        cases y with
        | list xs =>
          cases hs0
          refine PI.use (pi_list pe_q) (ia C X cw env S _ _ z σ H _ e1 hn so fun z1 H1 v1 a1 so1 r1 => ?_)
          cases r1 with
          | lst hp ra => exact ⟨_, rfl, ⟨_, SqL.of (Im.le _ _ hp)⟩, q z1 H1 _ a1 so1 (itl_ok fun z2 H2 S2 g _ _ => ⟨_, SqL.of (Im.le _ _ (g.im _ _ hp)), RpAll.mono g.im _ _ ra⟩)⟩
        | tuple xs =>
          cases hs0
          refine PI.use (pi_tup pe_q) (ia C X cw env S _ _ z σ H _ e1 hn so fun z1 H1 v1 a1 so1 r1 => ?_)
          cases r1 with
          | tup hp ra => exact ⟨_, rfl, ⟨_, Im.le.sqT hp⟩, q z1 H1 _ a1 so1 (itt_ok hp ra)⟩
        | _ => cases hs0
      | k xs =>
        cases hs0
        refine PI.use (pi_list pe_q) (ia C X cw env S _ _ z σ H _ e1 hn so fun z1 H1 v1 a1 so1 r1 => ?_)
        obtain ⟨a, vs, rfl, hp, ra⟩ := r1
        exact ⟨_, rfl, ⟨_, Im.le.sqL hp⟩, q z1 H1 _ a1 so1 (itl_ok fun z2 H2 S2 g _ _ => ⟨_, Im.le.sqL (g.im.sqL hp), RpAll.mono g.im _ _ ra⟩)⟩
      | r i =>
        obtain ⟨xs, hi, rfl⟩ := seqD_r hs0
        refine PI.use (pi_list pe_q) (ia C X cw env S _ _ z σ H _ e1 hn so fun z1 H1 v1 a1 so1 r1 => ?_)
        obtain ⟨p, vs, rfl, hc, hp, ra⟩ := own_ok (X := X) hi so1 r1
        refine ⟨_, rfl, ⟨_, SqL.of hp⟩, q z1 H1 _ a1 so1 (itl_ok fun z2 H2 S2 g so2 st => ?_)⟩
        obtain ⟨p2, vs2, e2, hc2, hp2, ra2⟩ := own_ok (X := X) (st (i, xs) (by simp)) so2 (r1.grow g)
        cases e2
        exact ⟨_, SqL.of hp2, ra2⟩
    · cases e
  | c, _, _, _, .enum g h => by
    have ia := (snd_e h).1
    intro C X cw env S S' src z σ H R e hn so q
    unfold evI at e
    obtain ⟨u, S1, e1, e⟩ := bind_ok e
    split at e
    · rename_i s0 hs0
      cases e
      refine PI.use (EvT.pi_enumA (cw.glo g) (cw.free (by simp)) (pa_cons pe_q pa_nil (h.star _ _)) (h.star _ _)) ?_
      refine ia C X cw env S _ _ z σ H _ e1 hn so fun z1 H1 v1 a1 so1 r1 => ?_
      rcases seq_two hs0 with hs0 | ⟨xs, rfl, rfl⟩
      · obtain ⟨a, vs, rfl, hq, hl, hs⟩ := list_src hs0 so1 r1
        exact ⟨a, vs, rfl, .inl ⟨hq, q z1 H1 _ a1 so1 (ite_ok hs)⟩⟩
      · cases r1 with
        | tup hp ra => exact ⟨_, _, rfl, .inr ⟨Im.le.sqT hp, q z1 H1 _ a1 so1 (iteT_ok hp ra)⟩⟩
    · cases e
  | c, _, _, _, .zip g h h2 => by
    have ia := (snd_e h).1
    have ib := (snd_e h2).1
    intro C X cw env S S' src z σ H R e hn so q
    unfold evI at e
    obtain ⟨u, S1, e1, e⟩ := bind_ok e
    obtain ⟨u2, S2, e2, e⟩ := bind_ok e
    refine PI.use (RZ.pi_zipA (cw.glo g) (cw.free (by simp)) (pa_cons pe_q (pa_cons pe_q pa_nil (h2.star _ _)) (h.star _ _)) (h.star _ _) (by rw [h2.star]; rfl)) ?_
    refine ia C X cw env S S1 u z σ H _ e1 hn so fun z1 H1 v1 a1 so1 r1 => ?_
    refine ib C X cw env S1 S2 u2 z1 σ H1 _ e2 (hn.mono a1) so1 fun z2 H2 v2 a2 so2 r2 => ?_
    split at e
    · rename_i s0 t0 hs0 ht0
      cases e
      obtain ⟨a, vs, rfl, hq, hl, hs⟩ := list_src hs0 so2 (r1.mono a2)
      obtain ⟨b, ws, rfl, hq2, hl2, hs2⟩ := list_src ht0 so2 r2
      exact ⟨a, b, vs, ws, rfl, .inl ⟨hq, hq2, q z2 H2 _ (a1.trans a2) so2 (itz_ok hs hs2)⟩⟩
    · split at e
      · cases e
        cases r1.mono a2 with
        | tup hp ra =>
          cases r2 with
          | tup hp2 ra2 => exact ⟨_, _, _, _, rfl, .inr ⟨Im.le.sqT hp, Im.le.sqT hp2, q z2 H2 _ (a1.trans a2) so2 (itzT_ok hp ra hp2 ra2)⟩⟩
      · cases e
  | c, _, _, _, .zip3 g h h2 h3 => by
    have ia := (snd_e h).1
    have ib := (snd_e h2).1
    have ic := (snd_e h3).1
    intro C X cw env S S' src z σ H R e hn so q
    unfold evI at e
    obtain ⟨u, S1, e1, e⟩ := bind_ok e
    obtain ⟨u2, S2, e2, e⟩ := bind_ok e
    obtain ⟨u3, S3, e3, e⟩ := bind_ok e
    split at e
    · cases e
      refine PI.use (EvT.pi_zip3 (cw.glo g) (cw.free (by simp)) (pa_cons pe_q (pa_cons pe_q (pa_cons pe_q pa_nil (h3.star _ _)) (h2.star _ _)) (h.star _ _)) (h.star _ _) (by rw [h2.star, h3.star]; rfl)) ?_
      refine ia C X cw env S S1 _ z σ H _ e1 hn so fun z1 H1 v1 a1 so1 r1 => ?_
      refine ib C X cw env S1 S2 _ z1 σ H1 _ e2 (hn.mono a1) so1 fun z2 H2 v2 a2 so2 r2 => ?_
      refine ic C X cw env S2 _ _ z2 σ H2 _ e3 ((hn.mono a1).mono a2) so2 fun z3 H3 v3 a3 so3 r3 => ?_
      cases (r1.mono a2).mono a3 with
      | tup hp ra =>
        cases r2.mono a3 with
        | tup hp2 ra2 =>
          cases r3 with
          | tup hp3 ra3 => exact ⟨_, _, _, _, _, _, rfl, Im.le.sqT hp, Im.le.sqT hp2, Im.le.sqT hp3, q z3 H3 _ ((a1.trans a2).trans a3) so3 (itz3_ok hp ra hp2 ra2 hp3 ra3)⟩
    · cases e
  | c, tg, _, _, .rev g h => by
    have ia := (snd_e h).1
    intro C X cw env S S' src z σ H R e hn so q
    unfold evI at e
    obtain ⟨u, S1, e1, e⟩ := bind_ok e
    split at e
    · rename_i s0 hs0
      cases e
      refine PI.use (RT.pi_revA (cw.glo g) (cw.free (by simp)) pe_q (h.star _ _)) ?_
      refine ia C X cw env S _ _ z σ H _ e1 hn so fun z1 H1 v1 a1 so1 r1 => ?_
      rcases seq_two hs0 with hs0 | ⟨xs, rfl, rfl⟩
      · obtain ⟨a, vs, rfl, hq, hl, hs⟩ := list_src hs0 so1 r1
        exact ⟨a, vs, rfl, .inl ⟨hq, q z1 H1 _ a1 so1 (itv_ok hl hs)⟩⟩
      · cases r1 with
        | tup hp ra => exact ⟨_, _, rfl, .inr ⟨Im.le.sqT hp, q z1 H1 _ a1 so1 (itvT_ok ra.length hp ra)⟩⟩
    · cases e
  | c, tg, _, _, .range1 g h => by
    have ia := (snd_e h).1
    intro C X cw env S S' src z σ H R e hn so q
    unfold evI at e
    obtain ⟨u, S1, e1, e⟩ := bind_ok e
    split at e
    · split at e
      · rename_i j hj
        cases e
        refine PI.use (pi_range1 (cw.glo g) (cw.free (by simp)) (pa_cons pe_q pa_nil (h.star _ _)) (h.star _ _)) ?_
        refine ia C X cw env S _ _ z σ H _ e1 hn so fun z1 H1 v1 a1 so1 r1 => ?_
        cases r1
        exact ⟨_, rfl, hj.1, hj.2, q z1 H1 _ a1 so1 itr_ok⟩
      · cases e
    · cases e
  | c, tg, _, _, .range2 g h h2 => by
    have ia := (snd_e h).1
    have ib := (snd_e h2).1
    intro C X cw env S S' src z σ H R e hn so q
    unfold evI at e
    obtain ⟨u, S1, e1, e⟩ := bind_ok e
    obtain ⟨u2, S2, e2, e⟩ := bind_ok e
    split at e
    · split at e
      · rename_i i j hj
        cases e
        refine PI.use (pi_range2 (cw.glo g) (cw.free (by simp)) (pa_cons pe_q (pa_cons pe_q pa_nil (h2.star _ _)) (h.star _ _)) (by rw [h.star, h2.star]; rfl) (by rw [h2.star]; rfl)) ?_
        refine ia C X cw env S S1 _ z σ H _ e1 hn so fun z1 H1 v1 a1 so1 r1 => ?_
        refine ib C X cw env S1 _ _ z1 σ H1 _ e2 (hn.mono a1) so1 fun z2 H2 v2 a2 so2 r2 => ?_
        cases r1
        cases r2
        exact ⟨_, _, rfl, hj, q z2 H2 _ (a1.trans a2) so2 itr_ok⟩
      · cases e
    · cases e
theorem snd_g : ∀ {c : Sc} {e : Expr} {t : Tg}, CT c e t → SndG B k c e t
  | c, _, _, .name h l f => by
    intro C X cw u env env' S S' z σ H v Q e hn so r q
    unfold asgT at e
    cases e
    refine PG.use (pg_name (i := _) (by rw [cw.nN] at *; exact cw.nN ▸ cw.nd) (by rw [cw.nN]; exact h) (by rw [cw.sc]; exact l) (by rw [cw.fn, cw.sc]; exact f)) ?_
    refine q z H _ Ext.refl so (hn.set r) fun own ho => wipe_set ?_
    unfold Tg.within at ho
    simpa using ho
  | c, _, _, @CT.sub _ o i x y pos h g hs => by
    have ia := (snd_e h).1
    have ib := (snd_e g).1
    intro C X cw u env env' S S' z σ H v Q e hn so r q
    unfold asgT at e
    obtain ⟨x1, S1, e1, e⟩ := bind_ok e
    obtain ⟨y1, S2, e2, e⟩ := bind_ok e
    obtain ⟨_, S3, e3, e⟩ := bind_ok e
    cases e
    refine PG.use (pg_sub pe_q pe_q st_w ?_) ?_
    · intro v
      cases i <;> first | rfl | cases hs
    · refine ia C X cw env S S1 x1 z σ H _ e1 hn so fun z1 H1 v1 a1 so1 r1 => ?_
      refine ib C X cw env S1 S2 y1 z1 σ H1 _ e2 (hn.mono a1) so1 fun z2 H2 v2 a2 so2 r2 => ?_
      have a12 := a1.trans a2
      refine set_ok e3 so2 (r1.mono a2) r2 (r.mono a12) fun z3 H3 a3 so3 => ?_
      exact q z3 H3 σ (a12.trans a3) so3 (hn.mono (a12.trans a3)) fun _ _ => rfl
  | c, _, _, .tup g => by
    have ig := snd_gs g
    intro C X cw u env env' S S' z σ H v Q e hn so r q
    unfold asgT at e
    split at e
    · rename_i ds
      cases r with
      | tup hp ra =>
        obtain ⟨h1, h2⟩ := CTs.len X.env g
        refine PG.use (pg_tup cw.gd.calm pgs_q h1 h2) ⟨_, _, rfl, Im.le.sqT hp, by rw [ra.length]; exact CTs.ds g e, ?_⟩
        refine ig C X cw ds env env' S S' z σ H _ Q e hn so ra fun z' H' σ' a b c w => q z' H' σ' a b c fun own ho => w own ?_
        unfold Tg.within at ho
        exact ho
    · rename_i ds
      cases r with
      | lst hp ra =>
        obtain ⟨h1, h2⟩ := CTs.len X.env g
        refine PG.use (pg_lst cw.gd.calm pgs_q h1 h2) ⟨_, _, rfl, Im.le.sqL (.of hp), by rw [ra.length]; exact CTs.ds g e, ?_⟩
        refine ig C X cw ds env env' S S' z σ H _ Q e hn so ra fun z' H' σ' a b c w => q z' H' σ' a b c fun own ho => w own ?_
        unfold Tg.within at ho
        exact ho
    · cases e
theorem snd_gs : ∀ {c : Sc} {es : List Expr} {ts : Tgs}, CTs c es ts → SndGs B k c es ts
  | c, _, _, .nil => by
    intro C X cw ds env env' S S' z σ H vs Q e hn so r q
    unfold asgTs at e
    split at e
    · cases e
      cases r
      exact PGs.use pgs_nil ⟨rfl, q z H σ Ext.refl so hn fun _ _ => rfl⟩
    · cases e
  | c, _, _, .cons h g => by
    have ia := snd_g h
    have ib := snd_gs g
    intro C X cw ds env env' S S' z σ H vs Q e hn so r q
    unfold asgTs at e
    split at e
    · rename_i d rest
      obtain ⟨env1, S1, e1, e⟩ := bind_ok e
      cases r with
      | cons r1 rr =>
        refine PGs.use (pgs_cons pg_q pgs_q (by cases h <;> rfl)) ⟨_, _, rfl, ?_⟩
        refine ia C X cw _ env env1 S S1 z σ H _ _ e1 hn so r1 fun z1 H1 σ1 a1 so1 hn1 w1 => ?_
        refine ib C X cw rest env1 env' S1 S' z1 σ1 H1 _ Q e hn1 so1 (RpAll.mono a1.im _ _ rr) fun z2 H2 σ2 a2 so2 hn2 w2 => ?_
        refine q z2 H2 σ2 (a1.trans a2) so2 hn2 fun own ho => ?_
        unfold Tgs.within at ho
        rw [Bool.and_eq_true] at ho
        rw [w2 own ho.2, w1 own ho.1]
    · cases e
theorem snd_f : ∀ {c : Sc} {es : List Expr} {xs : Exs}, CF c es xs → SndF B k c es xs
  | c, _, _, .nil => by
    intro C X cw env S S' b z σ H Q e hn so q
    unfold evIfs at e
    cases e
    exact PTs.use pts_nil (q z H Ext.refl so)
  | c, _, _, .one h => by
    have it := (snd_e h).2
    intro C X cw env S S' b z σ H Q e hn so q
    unfold evIfs at e
    obtain ⟨t, S1, e1, e⟩ := bind_ok e
    refine PTs.use (pts_one pt_q) (it C X cw env S S1 t z σ H _ e1 hn so fun z1 H1 a1 so1 => ?_)
    cases t with
    | true =>
      rw [if_pos rfl] at e
      unfold evIfs at e
      cases e
      exact q z1 H1 a1 so1
    | false =>
      rw [if_neg (by decide)] at e
      cases e
      exact q z1 H1 a1 so1
end
end
end Ev

/-! Ev7: every statement. -/
namespace Ev
open PySem PySem.Spec PyProof.Rows L2

def notComp : Expr → Bool
  | .ListComp .. => false
  | .SetComp .. => false
  | .DictComp .. => false
  | _ => true
theorem notComp_sw {e : Expr} (h : notComp e = true) (t : Option Expr) (l : Nat) (env : PySem.Env) : swapsWith e t l env = pure false := by
  cases e <;> first | rfl | cases h
def augOk : Operator → Bool
  | .Add => true
  | .Sub => true
  | .Mult => true
  | .FloorDiv => true
  | .Mod => true
  | _ => false
/-- no swap of stores -/
def NoSw (sc : Scope) (tg e : Expr) (l : Nat) : Prop := ∀ env : PySem.Env, env.scope = sc → swapsWith e (some tg) l env = pure false
def NoSt (sc : Scope) (tg e : Expr) : Prop := ∀ env : PySem.Env, env.scope = sc → swappedStores [tg] e env = pure none
mutual
inductive CS : Sc → Stmt → St → Prop
  | set {c : Sc} {m : Bool} {x : Str} {i : Nat} {e : Expr} {v : Ex} {pos pos' : Pos} (h : c.N[i]? = some x) (l : Loc c.sc x) (f : c.fn x = true ∨ c.sc.names.lookup x = some .local) (he : CE c m e v) (hs : NoSw c.sc (.Name x pos') e pos.line) : CS c (.Assign [.Name x pos'] e pos) (.asg (.name i) v)
  | setLc {c : Sc} {m : Bool} {y : Str} {i : Nat} {elt tg iter : Expr} {ifs : List Expr} {scope : Scope} {own : List (Str × Nat)} {pos spos py : Pos} {t : Tg} {it : Itr} {fs : Exs} {x : Ex} (h : c.N[i]? = some y) (l : c.sc.names.lookup y = some .local)
      (sw : ∀ env : PySem.Env, env.scope = c.sc → swapsWith (.ListComp elt [⟨tg, iter, ifs, 0⟩] scope pos) (some (.Name y py)) spos.line env = pure true) (ok : BlkOk c.N c.sc scope own) (hi : CI c tg iter it) (ht : CT (c.blk scope) tg t)
      (hw : t.within (own.map (·.2)) = true) (hf : CF (c.blk scope) ifs fs) (he : CE (c.blk scope) false elt x) (hs : notSet iter = true) : CS c (.Assign [.Name y py] (.ListComp elt [⟨tg, iter, ifs, 0⟩] scope pos) spos) (.asg (.name i) (.comp m (own.map (·.2)) t it fs x))
  | asg {c : Sc} {m : Bool} {tg e : Expr} {t : Tg} {v : Ex} {pos : Pos} (ht : CT c tg t) (he : CE c m e v) (hs : NoSw c.sc tg e pos.line) (hw : NoSt c.sc tg e) : CS c (.Assign [tg] e pos) (.asg t v)
  | par {c : Sc} {m1 m2 : Bool} {x y : Str} {i j : Nat} {a b : Expr} {v w : Ex} {px py pt pt2 pos : Pos} {kt k2 : Nat} (hi : c.N[i]? = some x) (hj : c.N[j]? = some y) (hij : i ≠ j) (hx : c.sc.names.lookup x = some .local) (hy : c.sc.names.lookup y = some .local) (ha : CE c m1 a v) (hb : CE c m2 b w)
      (hw : ∀ env : PySem.Env, env.scope = c.sc → swappedStores [.Tuple [.Name x px, .Name y py] kt pt] (.Tuple [a, b] k2 pt2) env = pure (some [x, y])) :
      CS c (.Assign [.Tuple [.Name x px, .Name y py] kt pt] (.Tuple [a, b] k2 pt2) pos) (.par [i, j] (.cons v (.cons w .nil)))
  | par3 {c : Sc} {m1 m2 m3 : Bool} {x y z : Str} {i j l : Nat} {a b d : Expr} {v w u : Ex} {px py pz pt pt2 pos : Pos} {kt k2 : Nat} (hi : c.N[i]? = some x) (hj : c.N[j]? = some y) (hl : c.N[l]? = some z) (hij : i ≠ j) (hil : i ≠ l) (hjl : j ≠ l) (hx : c.sc.names.lookup x = some .local)
      (hy : c.sc.names.lookup y = some .local) (hz : c.sc.names.lookup z = some .local) (ha : CE c m1 a v) (hb : CE c m2 b w) (hd : CE c m3 d u)
      (hw : ∀ env : PySem.Env, env.scope = c.sc → swappedStores [.Tuple [.Name x px, .Name y py, .Name z pz] kt pt] (.Tuple [a, b, d] k2 pt2) env = pure (some [x, y, z])) :
      CS c (.Assign [.Tuple [.Name x px, .Name y py, .Name z pz] kt pt] (.Tuple [a, b, d] k2 pt2) pos) (.par [i, j, l] (.cons v (.cons w (.cons u .nil))))
  | parC {c : Sc} {m1 m2 : Bool} {x y : Str} {i j : Nat} {a b : Expr} {v w : Ex} {px py pt pt2 pos : Pos} {kt k2 : Nat} (hx : CT c (.Name x px) (.name i)) (hy : CT c (.Name y py) (.name j)) (ha : CE c m1 a v) (hb : CE c m2 b w)
      (hs : NoSw c.sc (.Tuple [.Name x px, .Name y py] kt pt) (.Tuple [a, b] k2 pt2) pos.line) (hw : NoSt c.sc (.Tuple [.Name x px, .Name y py] kt pt) (.Tuple [a, b] k2 pt2)) :
      CS c (.Assign [.Tuple [.Name x px, .Name y py] kt pt] (.Tuple [a, b] k2 pt2) pos) (.par [i, j] (.cons v (.cons w .nil)))
  | aug {c : Sc} {x : Str} {i : Nat} {op : Operator} {e : Expr} {v : Ex} {pos pos' : Pos} (h : c.N[i]? = some x) (l : Loc c.sc x) (f : c.fn x = true ∨ c.sc.names.lookup x = some .local) (he : CE c false e v) (ho : augOk op = true) : CS c (.AugAssign (.Name x pos') op e pos) (.aug i op v)
  | augS {c : Sc} {o i : Expr} {x y : Ex} {op : Operator} {e : Expr} {v : Ex} {pos pos' : Pos} (h : CE c false o x) (g : CE c false i y) (he : CE c false e v) (ho : augOk op = true) (hs : notSlice i = true) : CS c (.AugAssign (.Subscript o i pos') op e pos) (.augS x y op v)
  | ex {c : Sc} {e : Expr} {v : Ex} {pos : Pos} (he : CE c false e v) (hn : notComp e = true) : CS c (.Expr e pos) (.ex v)
  | doc {c : Sc} {x : Str} {j : Nat} {pos pos' : Pos} : CS c (.Expr (.Constant (.str x) j pos) pos') .pass
  | ret {c : Sc} {m f : Bool} {e : Expr} {v : Ex} {pos : Pos} (he : CE c m e v) : CS c (.Return (some e) pos) (.ret f v)
  | retN {c : Sc} {f : Bool} {pos : Pos} : CS c (.Return none pos) (.ret f (.con .none))
  | ifs {c : Sc} {t : Expr} {a b : List Stmt} {v : Ex} {x y : Sts} {pos : Pos} (he : CE c false t v) (ha : CSs c a x) (hb : CSs c b y) : CS c (.If t a b pos) (.ifs v x y)
  | for_ {c : Sc} {tg iter : Expr} {b : List Stmt} {t : Tg} {it : Itr} {x : Sts} {pos : Pos} (hi : CI c tg iter it) (ht : CT c tg t) (hb : CSs c b x) (hs : notSet iter = true) : CS c (.For tg iter b [] pos) (.for_ t it x)
  | whl {c : Sc} {t : Expr} {b : List Stmt} {v : Ex} {x : Sts} {pos : Pos} (he : CE c false t v) (hb : CSs c b x) : CS c (.While t b [] pos) (.whl v x)
  | pass {c : Sc} {pos : Pos} : CS c (.Pass pos) .pass
  | brk {c : Sc} {pos : Pos} : CS c (.Break pos) .brk
  | cont {c : Sc} {pos : Pos} : CS c (.Continue pos) .cont
  | dead {c : Sc} {s : Stmt} : CS c s .dead
inductive CSs : Sc → List Stmt → Sts → Prop
  | nil {c : Sc} : CSs c [] .nil
  | cons {c : Sc} {s : Stmt} {ss : List Stmt} {x : St} {xs : Sts} (h : CS c s x) (g : CSs c ss xs) : CSs c (s :: ss) (.cons x xs)
end

section
variable (X : Cx)
def wZ (st : Stmt) : TS := fun D σ H => ∀ (pins : List (Addr × Obj)) (s : Shared), Inv X pins σ H s → wpAny (model X.prog X.w) X.A (exec st X.env) (SP X pins D) X.xe s
def wZs (st : List Stmt) : TS := fun D σ H => ∀ (pins : List (Addr × Obj)) (s : Shared), Inv X pins σ H s → wpAny (model X.prog X.w) X.A (execs st X.env) (SP X pins D) X.xe s
end
section
variable {X : Cx} {σ : L2.St} {H : Hp}
theorem ps_q {e : Stmt} : PS X e (wZ X e) := ⟨fun pins s σ H D I h => h pins s I⟩
theorem pss_q {e : List Stmt} : PSs X e (wZs X e) := ⟨fun pins s σ H D I h => h pins s I⟩
theorem PS.use {e : Stmt} {t : TS} (h : PS X e t) {D : Ends} (q : t D σ H) : wZ X e D σ H := fun pins s I => h.run pins s σ H D I q
theorem PSs.use {e : List Stmt} {t : TS} (h : PSs X e t) {D : Ends} (q : t D σ H) : wZs X e D σ H := fun pins s I => h.run pins s σ H D I q
end
/-- what is wanted behind a statement that ends so -/
def OutOk (K : PySem.W.Frag) (z : Rz) (H : Hp) (D : Ends) (o : Out) (S' : Sto) : Prop := match o with
  | .nx e => ∀ z' H' σ', Ext z H z' H' → SO K z' H' S' → EnvOk K z' H' e σ' → D.nx σ' H'
  | .bk e => ∀ z' H' σ', Ext z H z' H' → SO K z' H' S' → EnvOk K z' H' e σ' → D.bk σ' H'
  | .ct e => ∀ z' H' σ', Ext z H z' H' → SO K z' H' S' → EnvOk K z' H' e σ' → D.ct σ' H'
  | .ret u => ∀ z' H' v, Ext z H z' H' → SO K z' H' S' → RU K z' H' u v → D.rt v H'
theorem OutOk.ext {K : PySem.W.Frag} {z z1 : Rz} {H H1 : Hp} {D : Ends} {o : Out} {S' : Sto} (h : OutOk K z H D o S') (x : Ext z H z1 H1) : OutOk K z1 H1 D o S' := by
  cases o with
  | nx e => exact fun z' H' σ' a b c => h z' H' σ' (x.trans a) b c
  | bk e => exact fun z' H' σ' a b c => h z' H' σ' (x.trans a) b c
  | ct e => exact fun z' H' σ' a b c => h z' H' σ' (x.trans a) b c
  | ret u => exact fun z' H' v a b c => h z' H' v (x.trans a) b c
abbrev Own (X : Cx) : Prop := PassesOwn (model X.prog X.w) X.A X.env X.xe
section
variable (B : Bs) (k : Nat)
def SndS (c : Sc) (s : Stmt) (x : St) : Prop := ∀ (C : Calls) (X : Cx), Cw B k c C X → Own X → ∀ (env : Env) (S S' : Sto) (o : Out) (z : Rz) (σ : L2.St) (H : Hp) (D : Ends), exS x C env S = .ok o S' → EnvOk X.K z H env σ → SO X.K z H S → OutOk X.K z H D o S' → wZ X s D σ H
def SndSs (c : Sc) (s : List Stmt) (x : Sts) : Prop := ∀ (C : Calls) (X : Cx), Cw B k c C X → Own X → ∀ (env : Env) (S S' : Sto) (o : Out) (z : Rz) (σ : L2.St) (H : Hp) (D : Ends), exSs x C env S = .ok o S' → EnvOk X.K z H env σ → SO X.K z H S → OutOk X.K z H D o S' → wZs X s D σ H
end

/-! ### in place -/
section
variable {X : Cx} {z : Rz} {H : Hp} {S S' : Sto}
theorem ip_w {op : Operator} : PIp X op (fun x y H Q => wO X (inplaceOp op) x y H Q) := fun pins s σ H x y v u Q I r1 r2 h => h pins s σ v u I r1 r2
theorem iop_mulA : OpR X (inplaceOp .Mult) (rI (fun i j => mulOk i j = true) fun i j => .int (i * j)) := opI fun _ _ _ _ _ _ _ hc q => imul_int q (mulOk_ok hc)
theorem iop_fdivA : OpR X (inplaceOp .FloorDiv) (rI (fun _ j => j ≠ 0 ∧ j.natAbs.log2 < 9000) fun i j => .int (i.fdiv j)) := opI fun _ _ _ _ _ _ _ hc q => ifloordiv_int hc.1 q (.inl (PyProof.noPylong_of_log2 hc.2))
theorem iop_modA : OpR X (inplaceOp .Mod) (rI (fun _ j => j ≠ 0) fun i j => .int (i.fmod j)) := opI fun _ _ _ _ _ _ _ hc q => imod_int hc q
theorem ip_ok {op : Operator} {i j : Int} {c : D} {Q : VK} (ho : augOk op = true) (e : binD op (.int i) (.int j) = some c) (so : SO X.K z H S) (q : Aft X.K z H S (.d c) Q) : wO X (inplaceOp op) (.int i) (.int j) H Q := by
  cases op with
  | Add => cases e; exact use_op iop_add ⟨_, _, rfl, rfl, aft0 q so (.int _)⟩
  | Sub => cases e; exact use_op iop_sub ⟨_, _, rfl, rfl, aft0 q so (.int _)⟩
  | Mult =>
    simp only [binD] at e
    split at e
    · cases e; rename_i hc; exact use_op iop_mulA ⟨_, _, rfl, rfl, hc, aft0 q so (.int _)⟩
    · cases e
  | FloorDiv =>
    simp only [binD] at e
    split at e
    · cases e; rename_i hc; exact use_op iop_fdivA ⟨_, _, rfl, rfl, hc, aft0 q so (.int _)⟩
    · cases e
  | Mod =>
    simp only [binD] at e
    split at e
    · cases e; rename_i hc; exact use_op iop_modA ⟨_, _, rfl, rfl, hc, aft0 q so (.int _)⟩
    · cases e
  | _ => cases ho
theorem binD_int {op : Operator} {i j : Int} {c : D} (ho : augOk op = true) (e : binD op (.int i) (.int j) = some c) : ∃ n, c = .int n := by
  cases op with
  | Add => cases e; exact ⟨_, rfl⟩
  | Sub => cases e; exact ⟨_, rfl⟩
  | Mult =>
    simp only [binD] at e
    split at e
    · cases e; exact ⟨_, rfl⟩
    · cases e
  | FloorDiv =>
    simp only [binD] at e
    split at e
    · cases e; exact ⟨_, rfl⟩
    · cases e
  | Mod =>
    simp only [binD] at e
    split at e
    · cases e; exact ⟨_, rfl⟩
    · cases e
  | _ => cases ho
/-- o[i], by values: lists -/
def wGt (X : Cx) (o i : V) (H : Hp) (Q : VK) : Prop :=
  ∀ (pins : List (Addr × Obj)) (s : Shared) (σ : L2.St) (ov iv : Value), Inv X pins σ H s → RelV o ov → RelV i iv → wpAny (model X.prog X.w) X.A (getItem ov iv) (EP X pins σ Q) X.xe s
theorem gt_w : PGet X (fun o i H Q => wGt X o i H Q) := fun pins s σ H o i ov iv Q I r1 r2 h => h pins s σ ov iv I r1 r2
theorem gt_list {p : Addr} {xs : List V} {i : Int} {v : V} {Q : VK} (hp : SqL X.K H p xs) (he : atI xs i = some v) (q : Q v H) : wGt X (.ref p) (.int i) H Q := by
  intro pins s σ ov iv I r1 r2
  cases r1
  obtain ⟨t, rfl⟩ := r2
  obtain ⟨its, r, pl, hz⟩ := I.list hp
  obtain ⟨j, h1, h2, h3, h4, h5⟩ := atI_get he
  obtain ⟨w, ew, rw'⟩ := r.get h2
  have hl := r.length
  have hn := line63
  by_cases h0 : 0 ≤ i
  · have hj : i.toNat = j := by
      rw [seqIndex_of h0 h5] at h1
      exact Option.some.inj h1
    exact wpAny_getItem_list pl.isList h0 (by omega) (by rw [hj]; simpa using ew) ⟨v, H, I, rw', q⟩
  · have hj : (i + (its.toArray.size : Int)).toNat = j := by
      rw [seqIndex_neg (by omega) h4] at h1
      rw [List.size_toArray, ← hl]
      exact Option.some.inj h1
    exact wpAny_getItem_list_neg pl.isList (by omega) (by rw [List.size_toArray] <;> omega) (by omega) (by rw [hj]; simpa using ew) ⟨v, H, I, rw', q⟩
end
section
variable {B : Bs} {k : Nat} {c : Sc}
theorem CT.one {tg : Expr} {t : Tg} (h : CT c tg t) (env : PySem.Env) : (assignEach [tg] env).map (·.2) = [assign tg env] := by
  cases h <;> rfl
theorem CE.augst {m : Bool} {e : Expr} {x : Ex} (h : CE c m e x) (hs : notSlice e = true) (ov iv new : Value) : augStore e ov iv new = (do holding [new, ov, iv] (setItem ov iv new); release [new, ov, iv] []; pure .next) := by
  cases h <;> rfl
theorem EnvOk.len {K : PySem.W.Frag} {z : Rz} {H : Hp} {env : Env} {σ : L2.St} (h : EnvOk K z H env σ) : env.length = σ.length := h.1
theorem whL_ok {c : Env → Sto → Res Bool} {b : Env → Sto → Res Out} {env : Env} {S S' : Sto} {o : Out} (h : whL c b env S = .ok o S') : ∃ n, whN c b n env S = .ok o S' := by
  unfold whL at h
  split at h
  · exact ⟨_, h⟩
  · cases h
mutual
theorem snd_s : ∀ {c : Sc} {s : Stmt} {x : St}, CS c s x → SndS B k c s x
  | c, _, _, .set h l f he hs => by
    have ie := (snd_e (B := B) (k := k) he).1
    intro C X cw hp env S S' o z σ H D e hn so q
    unfold exS at e
    obtain ⟨u, S1, e1, e⟩ := bind_ok e
    obtain ⟨e2, S2, e3, e⟩ := bind_ok e
    unfold asgT at e3
    cases e3
    cases e
    refine PS.use (ps_set cw.nd (by rw [cw.nN]; exact h) (by rw [cw.sc]; exact l) pe_q (hs X.env cw.sc) (by rw [cw.fn, cw.sc]; exact f)) ?_
    exact ie C X cw env S _ u z σ H _ e1 hn so fun z1 H1 v x1 so1 r1 => q z1 H1 _ x1 so1 ((hn.mono x1).set r1)
  | c, _, _, @CS.setLc _ m y i elt tg iter ifs scope own pos spos py t it fs x h l sw ok hi ht hw hf he hs => by
    have sI := snd_i (B := B) (k := k) hi
    have sG := snd_g (B := B) (k := k) ht
    have sF := snd_f (B := B) (k := k) hf
    have sE := (snd_e (B := B) (k := k) he).1
    intro C X cw hp env S S' o z σ H D e hn so q
    unfold exS at e
    obtain ⟨u, S1, e1, e⟩ := bind_ok e
    obtain ⟨e2, S2, e3, e⟩ := bind_ok e
    unfold asgT at e3
    cases e3
    cases e
    have okX : BlkOk X.N X.env.scope scope own := by rw [cw.nN, cw.sc]; exact ok
    refine PS.use (ps_setLc (g := fun v σ H Q => ∀ (s0 : Shared) (H0 : Hp) (C0 : Addr) (cl : List (Str × Addr)) (fp : List Addr), wG (X.blk s0 H0 scope (compEnvC scope cl C0 X.env) fp) tg v σ H Q)
      (tt := fun σ H Q => ∀ (s0 : Shared) (H0 : Hp) (C0 : Addr) (cl : List (Str × Addr)) (fp : List Addr), wFs (X.blk s0 H0 scope (compEnvC scope cl C0 X.env) fp) ifs σ H Q)
      (te := fun σ H Q => ∀ (s0 : Shared) (H0 : Hp) (C0 : Addr) (cl : List (Str × Addr)) (fp : List Addr), wE (X.blk s0 H0 scope (compEnvC scope cl C0 X.env) fp) elt σ H Q) cw.gd.calm cw.nd (by rw [cw.nN]; exact h) (by rw [cw.sc]; exact l) (sw X.env cw.sc) pi_q okX (fun s0 H0 C0 cl fp => ⟨fun pins s σ H v u Q I r h => h s0 H0 C0 cl fp pins s u I r⟩) (fun s0 H0 C0 cl fp => ⟨fun pins s σ H Q I h => h s0 H0 C0 cl fp pins s I⟩) (fun s0 H0 C0 cl fp => ⟨fun pins s σ H Q I h => h s0 H0 C0 cl fp pins s I⟩) (notSet_fold hs _)) ?_
    exact comp_core ok hw hs sI sG sF sE C X cw env S _ u z σ H _ e1 hn so fun z1 H1 v x1 so1 r1 => q z1 H1 _ x1 so1 ((hn.mono x1).set r1)
  | c, _, _, .asg ht he hs hw => by
    have ie := (snd_e (B := B) (k := k) he).1
    have ig := snd_g (B := B) (k := k) ht
    intro C X cw hp env S S' o z σ H D e hn so q
    unfold exS at e
    obtain ⟨u, S1, e1, e⟩ := bind_ok e
    obtain ⟨e2, S2, e3, e⟩ := bind_ok e
    cases e
    refine PS.use (ps_asg pe_q pg_q (hs X.env cw.sc) (hw X.env cw.sc) (ht.one X.env)) ?_
    refine ie C X cw env S S1 u z σ H _ e1 hn so fun z1 H1 v x1 so1 r1 => ?_
    exact ig C X cw u env e2 S1 _ z1 σ H1 v _ e3 (hn.mono x1) so1 r1 fun z2 H2 σ2 x2 so2 en2 _ => q z2 H2 σ2 (x1.trans x2) so2 en2
  | c, _, _, .par hi hj hij hx hy ha hb hw => by
    have ia := snd_es (B := B) (k := k) (CEs.cons ha (.cons hb .nil))
    intro C X cw hp env S S' o z σ H D e hn so q
    unfold exS at e
    obtain ⟨us, S1, e1, e⟩ := bind_ok e
    split at e
    · rename_i hl
      cases e
      refine PS.use (ps_par cw.gd.calm cw.nd (by rw [cw.nN]; exact hi) (by rw [cw.nN]; exact hj) hij (by rw [cw.sc]; exact hx) (by rw [cw.sc]; exact hy) pa_q (hw X.env cw.sc)) ?_
      refine ia C X cw env S _ us z σ H _ e1 hn so fun z1 H1 vs x1 so1 r1 => ?_
      match us, hl, r1 with
      | [u1, u2], _, r1 =>
        obtain ⟨v1, ws, rfl, q1, v2, ws2, rfl, q2, q3⟩ := r1
        cases q3
        exact ⟨v1, v2, rfl, q z1 H1 _ x1 so1 (((hn.mono x1).set q1).set q2)⟩
    · cases e
  | c, _, _, .par3 hi hj hl hij hil hjl hx hy hz ha hb hd hw => by
    have ia := snd_es (B := B) (k := k) (CEs.cons ha (.cons hb (.cons hd .nil)))
    intro C X cw hp env S S' o z σ H D e hn so q
    unfold exS at e
    obtain ⟨us, S1, e1, e⟩ := bind_ok e
    split at e
    · rename_i hl2
      cases e
      refine PS.use (ps_par3 cw.gd.calm cw.nd (by rw [cw.nN]; exact hi) (by rw [cw.nN]; exact hj) (by rw [cw.nN]; exact hl) hij hil hjl (by rw [cw.sc]; exact hx) (by rw [cw.sc]; exact hy) (by rw [cw.sc]; exact hz) pa_q (hw X.env cw.sc)) ?_
      refine ia C X cw env S _ us z σ H _ e1 hn so fun z1 H1 vs x1 so1 r1 => ?_
      match us, hl2, r1 with
      | [u1, u2, u3], _, r1 =>
        obtain ⟨v1, ws, rfl, q1, v2, ws2, rfl, q2, v3, ws3, rfl, q3, q4⟩ := r1
        cases q4
        exact ⟨v1, v2, v3, rfl, q z1 H1 _ x1 so1 ((((hn.mono x1).set q1).set q2).set q3)⟩
    · cases e
  | c, _, _, .parC hx hy ha hb hs hw => by
    have ia := snd_es (B := B) (k := k) (CEs.cons ha (.cons hb .nil))
    have igx := snd_g (B := B) (k := k) hx
    have igy := snd_g (B := B) (k := k) hy
    intro C X cw hp env S S' o z σ H D e hn so q
    unfold exS at e
    obtain ⟨us, S1, e1, e⟩ := bind_ok e
    split at e
    · rename_i hl
      cases e
      obtain ⟨h1, h2⟩ := CTs.len X.env (CTs.cons hx (.cons hy .nil))
      refine PS.use (ps_asg (pe_tup pa_q) (pg_tup cw.gd.calm (pgs_cons pg_q (pgs_cons pg_q pgs_nil (by cases hy <;> rfl)) (by cases hx <;> rfl)) h1 h2) (hs X.env cw.sc) (hw X.env cw.sc) ((CT.tup (CTs.cons hx (.cons hy .nil))).one X.env)) ?_
      refine ia C X cw env S _ us z σ H _ e1 hn so fun z1 H1 vs x1 so1 r1 => ?_
      match us, hl, r1 with
      | [u1, u2], _, r1 =>
        obtain ⟨v1, ws, rfl, q1, v2, ws2, rfl, q2, q3⟩ := r1
        cases q3
        refine ⟨by rw [show sizeLine = 16777216 by decide]; simp, fun p hpn => ⟨p, _, rfl, SqT.of upd_same, rfl, _, _, rfl, ?_⟩⟩
        have x2 := Ext.new (z := z1) (o := .tup [v1, v2]) hpn
        refine igx C X cw u1 env _ _ _ z1 σ _ v1 _ (by unfold asgT; rfl) (hn.mono (x1.trans x2)) (so1.new hpn) (q1.mono x2) fun z3 H3 σ3 x3 so3 hn3 _ => ?_
        refine ⟨_, _, rfl, ?_⟩
        refine igy C X cw u2 _ _ _ _ z3 σ3 _ v2 _ (by unfold asgT; rfl) hn3 so3 (q2.mono (x2.trans x3)) fun z4 H4 σ4 x4 so4 hn4 _ => ?_
        exact ⟨rfl, q z4 H4 σ4 (((x1.trans x2).trans x3).trans x4) so4 hn4⟩
    · cases e
  | c, _, _, .aug h l f he ho => by
    have ie := (snd_e (B := B) (k := k) he).1
    intro C X cw hp env S S' o z σ H D e hn so q
    unfold exS at e
    split at e
    · rename_i u hu
      obtain ⟨v, S1, e1, e⟩ := bind_ok e
      split at e
      · rename_i a b
        split at e
        · rename_i d hd
          cases e
          refine PS.use (ps_aug cw.nd (by rw [cw.nN]; exact h) (by rw [cw.sc]; exact l) pe_q ip_w (by rw [cw.fn, cw.sc]; exact f)) ?_
          obtain ⟨w, h1, h2⟩ := hn.2 _ _ hu
          cases h2
          refine ⟨_, h1, ie C X cw env S _ _ z σ H _ e1 hn so fun z1 H1 v1 x1 so1 r1 => ?_⟩
          cases r1
          exact ip_ok ho hd so1 fun z2 H2 v2 x2 so2 r2 => q z2 H2 _ (x1.trans x2) so2 ((hn.mono (x1.trans x2)).set r2)
        · cases e
      · cases e
    · cases e
  | c, _, _, .augS h g he ho hsl => by
    have io := (snd_e (B := B) (k := k) h).1
    have ii := (snd_e (B := B) (k := k) g).1
    have ie := (snd_e (B := B) (k := k) he).1
    intro C X cw hp env S S' o z σ H D e hn so q
    unfold exS at e
    obtain ⟨u1, S1, e1, e⟩ := bind_ok e
    obtain ⟨u2, S2, e2, e⟩ := bind_ok e
    obtain ⟨u3, S3, e3, e⟩ := bind_ok e
    obtain ⟨u4, S4, e4, e⟩ := bind_ok e
    split at e
    · rename_i a b _
      split at e
      · rename_i d hd
        obtain ⟨_, S5, e5, e⟩ := bind_ok e
        cases e
        obtain ⟨n, rfl⟩ := binD_int ho hd
        refine PS.use (ps_augS pe_q pe_q gt_w pe_q ip_w st_w (CE.augst g hsl)) ?_
        refine io C X cw env S S1 u1 z σ H _ e1 hn so fun z1 H1 v1 x1 so1 r1 => ?_
        refine ii C X cw env S1 S2 u2 z1 σ H1 _ e2 (hn.mono x1) so1 fun z2 H2 v2 x2 so2 r2 => ?_
        have r1' := r1.mono x2
        have x12 := x1.trans x2
        have cont : S3 = S2 → ∀ v3, Rp X.K (Im z2 H2) v3 (.int a) → wE X _ σ H2 fun y H4 => wO X (inplaceOp _) v3 y H4 fun w H5 => wSt X v1 v2 w H5 fun H6 => D.nx σ H6 := fun hS v3 r3 => by
          subst hS
          cases r3
          refine ie C X cw env S3 S4 _ z2 σ H2 _ e4 (hn.mono x12) so2 fun z4 H4 v4 x4 so4 r4 => ?_
          cases r4
          refine ip_ok ho hd so4 fun z5 H5 v5 x5 so5 r5 => ?_
          refine set_ok e5 so5 (r1'.mono (x4.trans x5)) (r2.mono (x4.trans x5)) r5 fun z6 H6 x6 so6 => ?_
          have x := x12.trans ((x4.trans x5).trans x6)
          exact q z6 H6 σ x so6 (hn.mono x)
        unfold idxU at e3
        split at e3
        · rename_i xs i
          exfalso
          unfold setU at e5
          cases e5
        · rename_i x y _
          split at e3
          · rename_i da db ha hb
            split at e3
            · rename_i dd hdd
              cases e3
              unfold idxD at hdd
              split at hdd
              · obtain ⟨p, ws, rfl, hp, ra⟩ := der_lst ha so2 r1'
                obtain rfl := der_int hb r2
                obtain ⟨v, h3, h4⟩ := atI_ok ra hdd
                exact gt_list (SqL.of hp) h3 (cont rfl v h4)
              · exfalso
                unfold setU at e5
                split at e5
                · rename_i j k d
                  unfold der at ha
                  split at ha
                  · rename_i x0 h0; cases h0
                  · rename_i j0 h0
                    cases h0
                    split at ha
                    · cases ha
                    · cases ha
                  · cases ha
                · cases e5
              · cases hdd
            · cases e3
          · cases e3
      · cases e
    · cases e
  | c, _, _, .ex he hc => by
    have ie := (snd_e (B := B) (k := k) he).1
    intro C X cw hp env S S' o z σ H D e hn so q
    unfold exS at e
    obtain ⟨u, S1, e1, e⟩ := bind_ok e
    cases e
    refine PS.use (ps_expr pe_q (notComp_sw hc _ _ _)) ?_
    exact ie C X cw env S _ u z σ H _ e1 hn so fun z1 H1 v x1 so1 r1 => q z1 H1 σ x1 so1 (hn.mono x1)
  | c, _, _, .doc => by
    intro C X cw hp env S S' o z σ H D e hn so q
    unfold exS at e
    cases e
    exact PS.use ps_doc (q z H σ Ext.refl so hn)
  | c, _, _, .ret he => by
    have ie := (snd_e (B := B) (k := k) he).1
    intro C X cw hp env S S' o z σ H D e hn so q
    unfold exS at e
    obtain ⟨u, S1, e1, e⟩ := bind_ok e
    refine PS.use (ps_ret pe_q) (ie C X cw env S S1 u z σ H _ e1 hn so fun z1 H1 v x1 so1 r1 => ?_)
    split at e
    · obtain ⟨d, S2, e2, e⟩ := bind_ok e
      cases e
      obtain ⟨z2, x2, so2, r2⟩ := frz_ok e2 so1 r1
      exact q z2 H1 v (x1.trans x2) so2 r2
    · cases e
      exact q z1 H1 v x1 so1 r1
  | c, _, _, .retN => by
    intro C X cw hp env S S' o z σ H D e hn so q
    unfold exS at e
    obtain ⟨u, S1, e1, e⟩ := bind_ok e
    unfold evE at e1
    cases e1
    refine PS.use ps_retN ?_
    split at e
    · cases e
      exact q z H _ Ext.refl so .non
    · cases e
      exact q z H _ Ext.refl so .non
  | c, _, _, .ifs he ha hb => by
    have it := (snd_e (B := B) (k := k) he).2
    have ia := snd_ss ha
    have ib := snd_ss hb
    intro C X cw hp env S S' o z σ H D e hn so q
    unfold exS at e
    obtain ⟨t, S1, e1, e⟩ := bind_ok e
    refine PS.use (ps_if pt_q pss_q pss_q) (it C X cw env S S1 t z σ H _ e1 hn so fun z1 H1 x1 so1 => ?_)
    cases t with
    | true =>
      rw [if_pos rfl] at e ⊢
      exact ia C X cw hp env S1 S' o z1 σ H1 D e (hn.mono x1) so1 (q.ext x1)
    | false =>
      rw [if_neg (by decide)] at e ⊢
      exact ib C X cw hp env S1 S' o z1 σ H1 D e (hn.mono x1) so1 (q.ext x1)
  | c, _, _, @CS.for_ _ tg iter b t it x pos hi ht hb hs => by
    have sI := snd_i (B := B) (k := k) hi
    have sG := snd_g (B := B) (k := k) ht
    have sB := snd_ss hb
    intro C X cw hp env S S' o z σ H D e hn so q
    unfold exS at e
    obtain ⟨src, S1, e1, e⟩ := bind_ok e
    refine PS.use (ps_for hp cw.gd.calm pi_q pg_q pss_q (notSet_fold hs _)) ?_
    refine sI C X cw env S S1 src z σ H _ e1 hn so fun z1 H1 J x1 so1 it1 => ?_
    have q1 := q.ext x1
    refine ⟨fun i m σ2 H2 => m = src.1.length - i ∧ i ≤ src.1.length ∧ ∃ z2 env2 S2, Ext z1 H1 z2 H2 ∧ SO X.K z2 H2 S2 ∧ EnvOk X.K z2 H2 env2 σ2 ∧ forL (fun x0 e S2 => (asgT t C (.d x0) e S2).bind fun e2 S3 => exSs x C e2 S3) src.2 (src.1.drop i) env2 S2 = .ok o S',
      ⟨src.1.length, by simp, Nat.zero_le _, z1, env, S1, Ext.refl, so1, hn.mono x1, e⟩, ?_⟩
    rintro i m σ2 H2 ⟨rfl, hle, z2, env2, S2, x2, so2, en2, ev⟩
    by_cases hi : i < src.1.length
    · have hdrop : src.1.drop i = src.1[i] :: src.1.drop (i + 1) := List.drop_eq_getElem_cons hi
      rw [hdrop] at ev
      unfold forL at ev
      split at ev
      · rename_i hst
        obtain ⟨o1, S5, ev1, ev⟩ := bind_ok ev
        obtain ⟨env3, S4, ev3, ev4⟩ := bind_ok ev1
        obtain ⟨itg, _⟩ := it1 z2 H2 S2 x2.grow so2 hst
        obtain ⟨go, yl⟩ := itg i src.1[i] (List.getElem?_eq_getElem hi)
        refine .inr ⟨go, fun σ3 H3 => src.1.length - (i + 1) = src.1.length - (i + 1) ∧ i + 1 ≤ src.1.length ∧ ∃ z2 env2 S2, Ext z1 H1 z2 H3 ∧ SO X.K z2 H3 S2 ∧ EnvOk X.K z2 H3 env2 σ3 ∧ forL (fun x0 e S2 => (asgT t C (.d x0) e S2).bind fun e2 S3 => exSs x C e2 S3) src.2 (src.1.drop (i + 1)) env2 S2 = .ok o S',
          fun σ3 H3 h => ⟨src.1.length - (i + 1), by omega, h⟩, fun xv H3 y => ?_⟩
        obtain ⟨x3, so3, rx⟩ := yl xv H3 y
        refine sG C X cw (.d src.1[i]) env2 env3 S2 S4 z2 σ2 H3 xv _ ev3 (en2.mono x3) so3 rx fun z4 H4 σ4 x4 so4 en4 _ => ?_
        refine sB C X cw hp env3 S4 S5 o1 z4 σ4 H4 _ ev4 en4 so4 ?_
        have x14 := (x2.trans x3).trans x4
        cases o1 with
        | nx e2 => exact fun z5 H5 σ5 x5 so5 en5 => ⟨rfl, hi, z5, e2, S5, x14.trans x5, so5, en5, ev⟩
        | ct e2 => exact fun z5 H5 σ5 x5 so5 en5 => ⟨rfl, hi, z5, e2, S5, x14.trans x5, so5, en5, ev⟩
        | bk e2 =>
          cases ev
          exact fun z5 H5 σ5 x5 so5 en5 => q1 z5 H5 σ5 (x14.trans x5) so5 en5
        | ret u =>
          cases ev
          exact fun z5 H5 v5 x5 so5 r5 => q1 z5 H5 v5 (x14.trans x5) so5 r5
      · cases ev
    · have ei : i = src.1.length := by omega
      rw [ei, List.drop_length] at ev
      unfold forL at ev
      split at ev
      · rename_i hst
        cases ev
        obtain ⟨_, stop⟩ := it1 z2 H2 _ x2.grow so2 hst
        exact .inl ⟨by rw [ei]; exact stop, q1 z2 H2 σ2 x2 so2 en2⟩
      · cases ev
  | c, _, _, @CS.whl _ t b v x pos he hb => by
    have it := (snd_e (B := B) (k := k) he).2
    have sB := snd_ss hb
    intro C X cw hp env S S' o z σ H D e hn so q
    unfold exS at e
    obtain ⟨n, e⟩ := whL_ok e
    refine PS.use (ps_while hp pt_q pss_q) ?_
    refine ⟨fun m σ2 H2 => ∃ z2 env2 S2, Ext z H z2 H2 ∧ SO X.K z2 H2 S2 ∧ EnvOk X.K z2 H2 env2 σ2 ∧ whN (fun e S1 => evT v C e S1) (fun e S1 => exSs x C e S1) m env2 S2 = .ok o S', ⟨n, z, env, S, Ext.refl, so, hn, e⟩, ?_⟩
    rintro m σ2 H2 ⟨z2, env2, S2, x2, so2, en2, ev⟩
    cases m with
    | zero => cases ev
    | succ m =>
      unfold whN at ev
      obtain ⟨t1, S3, ev1, ev⟩ := bind_ok ev
      refine it C X cw env2 S2 S3 t1 z2 σ2 H2 _ ev1 en2 so2 fun z3 H3 x3 so3 => ?_
      have x13 := x2.trans x3
      cases t1 with
      | true =>
        rw [if_pos rfl] at ev ⊢
        obtain ⟨o1, S5, ev2, ev⟩ := bind_ok ev
        refine ⟨fun σ3 H3 => ∃ z2 env2 S2, Ext z H z2 H3 ∧ SO X.K z2 H3 S2 ∧ EnvOk X.K z2 H3 env2 σ3 ∧ whN (fun e S1 => evT v C e S1) (fun e S1 => exSs x C e S1) m env2 S2 = .ok o S', fun σ3 H3 h => ⟨m, Nat.lt_succ_self m, h⟩, ?_⟩
        refine sB C X cw hp env2 S3 S5 o1 z3 σ2 H3 _ ev2 (en2.mono x3) so3 ?_
        cases o1 with
        | nx e2 => exact fun z5 H5 σ5 x5 so5 en5 => ⟨z5, e2, S5, x13.trans x5, so5, en5, ev⟩
        | ct e2 => exact fun z5 H5 σ5 x5 so5 en5 => ⟨z5, e2, S5, x13.trans x5, so5, en5, ev⟩
        | bk e2 =>
          cases ev
          exact fun z5 H5 σ5 x5 so5 en5 => q z5 H5 σ5 (x13.trans x5) so5 en5
        | ret u =>
          cases ev
          exact fun z5 H5 v5 x5 so5 r5 => q z5 H5 v5 (x13.trans x5) so5 r5
      | false =>
        rw [if_neg (by decide)] at ev ⊢
        cases ev
        exact q z3 H3 σ2 x13 so3 (en2.mono x3)
  | c, _, _, .pass => by
    intro C X cw hp env S S' o z σ H D e hn so q
    unfold exS at e
    cases e
    exact PS.use ps_pass (q z H σ Ext.refl so hn)
  | c, _, _, .brk => by
    intro C X cw hp env S S' o z σ H D e hn so q
    unfold exS at e
    cases e
    exact PS.use ps_break (q z H σ Ext.refl so hn)
  | c, _, _, .cont => by
    intro C X cw hp env S S' o z σ H D e hn so q
    unfold exS at e
    cases e
    exact PS.use ps_continue (q z H σ Ext.refl so hn)
  | c, _, _, .dead => by
    intro C X cw hp env S S' o z σ H D e hn so q
    unfold exS at e
    cases e
theorem snd_ss : ∀ {c : Sc} {s : List Stmt} {x : Sts}, CSs c s x → SndSs B k c s x
  | c, _, _, .nil => by
    intro C X cw hp env S S' o z σ H D e hn so q
    unfold exSs at e
    cases e
    exact PSs.use pss_nil (q z H σ Ext.refl so hn)
  | c, _, _, .cons h g => by
    have is := snd_s h
    have iss := snd_ss g
    intro C X cw hp env S S' o z σ H D e hn so q
    unfold exSs at e
    obtain ⟨o1, S1, e1, e⟩ := bind_ok e
    refine PSs.use (pss_cons ps_q pss_q) ?_
    refine is C X cw hp env S S1 o1 z σ H _ e1 hn so ?_
    cases o1 with
    | nx e2 => exact fun z1 H1 σ1 x1 so1 en1 => iss C X cw hp e2 S1 S' o z1 σ1 H1 D e en1 so1 (q.ext x1)
    | ct e2 => cases e; exact q
    | bk e2 => cases e; exact q
    | ret u => cases e; exact q
end
end
end Ev

/-! Ev8: the defs, their calls, the law's call. -/
namespace Ev
open PySem PySem.Spec PyProof.Rows L2

/-! ### behind a call -/
theorem SO.sel {K : PySem.W.Frag} {z : Rz} {H : Hp} {S : Sto} (so : SO K z H S) {cs : List (Option Addr)} {S' : Sto} (g : Nat → Nat) (m : Nat) (inj : ∀ i j, i < m → j < m → g i = g j → i = j) (l1 : cs.length = m) (l2 : S'.length = m)
    (hc : ∀ j, j < m → cs[j]? = z.cs[g j]?) (hS : ∀ j, j < m → S'[j]? = S[g j]?) : SO K { cs := cs, rs := z.rs } H S' ∧ ∀ b, Rz.has { cs := cs, rs := z.rs } b → z.has b := by
  have lt : ∀ {j : Nat} {c : Option Addr}, cs[j]? = some c → j < m := fun h => by rw [← l1]; exact (List.getElem?_eq_some_iff.mp h).1
  have ltS : ∀ {j : Nat} {c : Option (List D)}, S'[j]? = some c → j < m := fun h => by rw [← l2]; exact (List.getElem?_eq_some_iff.mp h).1
  have sub : ∀ b, Rz.has { cs := cs, rs := z.rs } b → z.has b := fun b h => by
    rcases h with h | h
    · obtain ⟨j, h⟩ := mem_get h
      rw [hc j (lt h)] at h
      exact .inl (get_mem h)
    · exact .inr h
  refine ⟨⟨?_, fun i j p h1 h2 => ?_, fun p h => so.tr p (sub p h), fun i p h => ?_, fun i xs h => ?_⟩, sub⟩
  · show S'.length = cs.length
    rw [l1, l2]
  · have h1' : cs[i]? = some (some p) := h1
    have h2' : cs[j]? = some (some p) := h2
    have a := lt h1'
    have b := lt h2'
    rw [hc i a] at h1'
    rw [hc j b] at h2'
    exact inj i j a b (so.nd _ _ p h1' h2')
  · have h' : cs[i]? = some (some p) := h
    rw [hc i (lt h')] at h'
    exact so.dj _ p h'
  · have a := ltS h
    rw [hS i a] at h
    obtain ⟨p, vs, h1, h2, h3⟩ := so.al _ xs h
    refine ⟨p, vs, ?_, h2, RpAll.mono (fun b o q => ?_) _ _ h3⟩
    · show cs[i]? = _
      rw [hc i a]
      exact h1
    · obtain ⟨q1, q2⟩ := Im.out q
      exact Im.mk q1 fun c => q2 (sub b c)
/-- the callee's own lists are let go -/
theorem fin_ok {K : PySem.W.Frag} {z z2 : Rz} {H H2 : Hp} {S S2 S' : Sto} {o : Out} {u : U} {v : V} {Q : VK} (e : fin S.length o S2 = .ok u S') (so : SO K z H S) (x : Ext z H z2 H2) (so2 : SO K z2 H2 S2)
    (r : match o with
      | .ret w => RU K z2 H2 w v
      | .nx _ => v = .non
      | _ => False) (q : Aft K z H S' u Q) : Q v H2 := by
  have ln := so.ln
  have ln2 := so2.ln
  have le := x.ln
  have trim : ∀ (cs : List (Option Addr)) (g : Nat → Nat) (m : Nat) (T : Sto), SO K { cs := cs, rs := z2.rs } H2 T → (∀ b, Rz.has { cs := cs, rs := z2.rs } b → z2.has b) → z.cs.length ≤ cs.length → (∀ j, j < z.cs.length → cs[j]? = z2.cs[j]?) → Ext z H { cs := cs, rs := z2.rs } H2 := fun cs g m T s sub l h =>
    ⟨fun b o k => by
      obtain ⟨q1, q2⟩ := Im.out (x.im b o k)
      exact Im.mk q1 fun c => q2 (sub b c), x.rs, x.kp, l, fun i p hi hp => by
      have hp' : cs[i]? = some (some p) := hp
      rw [h i hi] at hp'
      exact x.cs i p hi hp', x.tr⟩
  have im : ∀ (cs : List (Option Addr)), (∀ b, Rz.has { cs := cs, rs := z2.rs } b → z2.has b) → Le (Im z2 H2) (Im { cs := cs, rs := z2.rs } H2) := fun cs sub b o k => by
    obtain ⟨q1, q2⟩ := Im.out k
    exact Im.mk q1 fun c => q2 (sub b c)
  obtain ⟨sT, subT⟩ := so2.sel (cs := z2.cs.take S.length) (S' := S2.take S.length) id S.length (fun i j _ _ h => h) (by rw [List.length_take]; omega) (by rw [List.length_take]; omega) (fun j hj => List.getElem?_take_of_lt hj) (fun j hj => List.getElem?_take_of_lt hj)
  have xT : Ext z H { cs := z2.cs.take S.length, rs := z2.rs } H2 := trim _ id S.length _ sT subT (by rw [List.length_take]; omega) fun j hj => List.getElem?_take_of_lt (by omega)
  cases o with
  | nx e1 =>
    unfold fin at e
    cases e
    have r' : v = .non := r
    rw [r'] at *
    exact q _ _ _ xT sT .non
  | bk e1 => exact False.elim r
  | ct e1 => exact False.elim r
  | ret w =>
    have r' : RU K z2 H2 w v := r
    cases w with
    | d y =>
      unfold fin at e
      cases e
      exact q _ _ _ xT sT (Rp.mono (im _ subT) _ _ r')
    | k y => unfold fin at e; cases e
    | r i =>
      obtain ⟨ri, rv⟩ := r'
      unfold fin at e
      simp only at e
      split at e
      · rename_i hi
        cases e
        refine q _ _ _ xT sT ⟨?_, fun p hp => ?_⟩
        · show i < (z2.cs.take S.length).length
          rw [List.length_take]
          omega
        · have hp' : (z2.cs.take S.length)[i]? = some (some p) := hp
          rw [List.getElem?_take_of_lt hi] at hp'
          exact rv p hp'
      · rename_i hi
        split at e
        · rename_i c hc
          cases e
          have key : ∀ {α : Type} (l : List α) (a : α), S.length ≤ l.length → l[i]? = some a → ∀ j, j < S.length + 1 → (l.take S.length ++ [a])[j]? = l[if j = S.length then i else j]? := fun l a hl ha j hj => by
            by_cases c : j = S.length
            · rw [if_pos c, c, List.getElem?_append_right (by rw [List.length_take]; omega), ha]
              have : S.length - (List.take S.length l).length = 0 := by rw [List.length_take]; omega
              rw [this]
              rfl
            · rw [if_neg c, List.getElem?_append_left (by rw [List.length_take]; omega), List.getElem?_take_of_lt (by omega)]
          obtain ⟨cc, hcc⟩ : ∃ cc, z2.cs[i]? = some cc := ⟨_, List.getElem?_eq_getElem ri⟩
          obtain ⟨sN, subN⟩ := so2.sel (cs := z2.cs.take S.length ++ [cc]) (S' := S2.take S.length ++ [c]) (fun j => if j = S.length then i else j) (S.length + 1) (fun a b ha hb h => by
            by_cases c1 : a = S.length
            · by_cases c2 : b = S.length
              · omega
              · simp only [if_pos c1, if_neg c2] at h; omega
            · by_cases c2 : b = S.length
              · simp only [if_neg c1, if_pos c2] at h; omega
              · simp only [if_neg c1, if_neg c2] at h; exact h) (by rw [List.length_append, List.length_take]; simp; omega) (by rw [List.length_append, List.length_take]; simp; omega) (key z2.cs cc (by omega) hcc) (key S2 c (by omega) hc)
          refine q _ _ _ (trim _ id 0 _ sN subN (by rw [List.length_append, List.length_take]; simp; omega) fun j hj => ?_) sN ⟨?_, fun p hp => ?_⟩
          · rw [List.getElem?_append_left (by rw [List.length_take]; omega), List.getElem?_take_of_lt (by omega)]
          · show S.length < (z2.cs.take S.length ++ [cc]).length
            rw [List.length_append, List.length_take]; simp; omega
          · have hp' : (z2.cs.take S.length ++ [cc])[S.length]? = some (some p) := hp
            rw [key z2.cs cc (by omega) hcc S.length (by omega), if_pos rfl] at hp'
            exact rv p hp'
        · cases e

/-! ### a def -/
theorem start_env {K : PySem.W.Frag} {z : Rz} {H : Hp} {ud : List U} {vs : List V} {N : List Str} (r : RUs K z H ud vs) : EnvOk K z H (ud.map some ++ List.replicate (N.length - ud.length) none) (L2.start N vs) := by
  have hl := r.length
  refine ⟨by unfold L2.start; simp [hl], fun i u h => ?_⟩
  by_cases hi : i < ud.length
  · rw [List.getElem?_append_left (by simpa using hi), List.getElem?_map] at h
    cases e : ud[i]? with
    | none => rw [e] at h; cases h
    | some w =>
      rw [e] at h
      cases h
      have get : ∀ {us : List U} {vs : List V} {i : Nat}, RUs K z H us vs → us[i]? = some u → ∃ v, vs[i]? = some v ∧ RU K z H u v := fun {us} => by
        induction us with
        | nil => intro vs i _ h; cases h
        | cons a us ih =>
          intro vs i r h
          obtain ⟨v, ws, rfl, r1, r2⟩ := r
          cases i with
          | zero => cases h; exact ⟨v, rfl, r1⟩
          | succ i =>
            obtain ⟨w, h1, h2⟩ := ih r2 (by simpa using h)
            exact ⟨w, by simpa using h1, h2⟩
      obtain ⟨v, h1, h2⟩ := get r e
      refine ⟨v, ?_, h2⟩
      unfold L2.start
      rw [List.getElem?_append_left (by simp; omega), List.getElem?_map, h1]
      rfl
  · rw [List.getElem?_append_right (by simpa using hi), List.getElem?_replicate] at h
    split at h <;> cases h
abbrev CN : CXT := fun _ _ _ _ _ _ => False
/-- a def as it stands, and its code -/
structure Df (B : Bs) (c0 : Sc) (i : Nat) (x : Str) (d : Fd) (a : Addr) (fd : FuncData) (ps : List Str) : Prop where
  mg : B.mg x = some (.ref a)
  ex : ∃ (nm qual : Str) (params : Arguments) (body : List Stmt) (scope : Scope) (dvs : List V) (kws : List (Str × V)) (N : List Str), FunD B.K nm qual params body scope dvs kws a fd ∧ FnScope N ps scope ∧ CSs { c0 with N := N, sc := scope, fn := fun _ => true } body d.code ∧ d.nn = N.length
  np : d.np = ps.length
theorem Df.run {B : Bs} {c0 : Sc} {i k : Nat} {x : Str} {d : Fd} {a : Addr} {fd : FuncData} {ps : List Str} {C : Calls} (F : Df B c0 i x d a fd ps) (gl : GlOk B c0) (hC : ∀ c : Sc, c.fs = c0.fs → c.pt = c0.pt → CallsW B k c C)
    {A : Around} {outer : List PySem.Env} {s : Shared} {H : Hp} {args : Args} {us : List Value} {vs : List V} {Q : VK} {ud : List U} {S S' : Sto} {u : U} {z : Rz} (hr : Room (k + 1) A) (hg : A.guards = some []) (e0 : Env0 B.P B.w B.K B.mg B.base A outer s H)
    (hb : BindsTo s fd args (ps.zip us)) (r : Vals vs us) (hl : ud.length = d.np) (e : ((exSs d.code C (ud.map some ++ List.replicate (d.nn - d.np) none) S).bind fun o S1 => fin S.length o S1) = .ok u S') (so : SO B.K z H S) (ru : RUs B.K z H ud vs) (q : Aft B.K z H S' u Q) :
    codeAny (model B.P B.w) A (.call (.ref a) args) (CR CN outer B.P B.w H s Q fun _ _ _ => False) s := by
  obtain ⟨nm, qual, params, body, scope, dvs, kws, N, FD, sco, hcs, hnn⟩ := F.ex
  obtain ⟨oc, od, dV, kV, doc, pm, an, cdv, ct, osl, rfl, lk, hcd, hD, hK⟩ := FD.ex
  have np := F.np
  have lv : vs.length = ps.length := by rw [← ru.length]; omega
  have keep : ∀ b o, B.base.get? b = some o → s.heap.get? b = some o := fun b o e => (e0.bs b o e).1
  have inS : B.K.In s.heap := e0.mod.kin.keeps keep
  have lim : s.heap.NoLimit := e0.mod.nolimit.keeps keep
  refine codeAny_call_function hr.depth (inS _ _ lk) rfl sco.co sco.gen rfl (PySem.W.codeRec_of inS hcd) (hb _ _ _ _ ?_)
  refine wpAny_newFunctionEnv_cells sco.kind (fun ⟨n, v⟩ hy => ?_) fun env he s1 ic => ?_
  · rcases sco.par n (List.of_mem_zip hy).1 with q | q
    · exact .inl q
    · exact .inr ⟨q, PySem.W.cellsFrom_some _ _ _ (.inl q)⟩
  subst he
  refine ⟨lim.keeps ic.toInCall.keep, codeAny_func ?_⟩
  have I := inv_start (CX := CN) (E := fun _ _ _ => False) sco hr.hd e0 lv r ic
  generalize hX : cxOf CN B.P B.w B.K B.mg B.base N qual scope a cdv A outer s H (fun _ _ _ => False) = X at I
  have cw : Cw B k { c0 with N := N, sc := scope, fn := fun _ => true } C X.nox := by
    subst hX
    have rd := hr.deeper (envOfC qual scope s.heap.objs.size a cdv)
    refine ⟨⟨rfl, rfl, rfl, rfl, rfl⟩, ⟨rfl, ?_, ?_⟩, rd, rfl, sco.nd, rfl, rfl, ⟨gl.cs, gl.ms, gl.bl⟩, hC _ rfl rfl⟩
    · have := rd.un
      show (A.deeper _).units + 150 < cLine
      omega
    · exact hg
  obtain ⟨o, S2, e1, e2⟩ := bind_ok e
  have en : EnvOk X.nox.K z H (ud.map some ++ List.replicate (d.nn - d.np) none) (L2.start N vs) := by
    subst hX
    have h := start_env (N := N) ru
    rw [hnn, ← hl]
    exact h
  have so0 : SO X.nox.K z H S := by subst hX; exact so
  have body_ok := snd_ss (B := B) (k := k) hcs C X.nox cw PassesOwn.never _ S S2 o z (L2.start N vs) H { nx := fun _ H' => Q .non H', rt := Q } e1 en so0 (by
    subst hX
    cases o with
    | nx e3 => exact fun z2 H2 σ2 x2 so2 _ => fin_ok (v := .non) e2 so x2 so2 rfl q
    | bk e3 => unfold fin at e2; cases e2
    | ct e3 => unfold fin at e2; cases e2
    | ret w => exact fun z2 H2 v x2 so2 r2 => fin_ok (v := v) e2 so x2 so2 r2 q)
  have go := body_ok [] s1 (I.wish _)
  subst hX
  refine wpAny_mono go (fun fl s' hs => ?_) fun e s' hs => hs.elim
  have fin2 : ∀ {σ' : L2.St} {H' : Hp} {v : V} {u : Value}, Inv (cxOf CN B.P B.w B.K B.mg B.base N qual scope a cdv A outer s H (fun _ _ _ => False)).nox [] σ' H' s' → RelV v u → Q v H' → L2.CE outer B.P B.w H s Q u s' :=
    fun {σ' H' v u} J rv q => ⟨v, H', J.os, J.bare, J.base, J.hok, rv, q⟩
  cases fl with
  | ret u =>
    obtain ⟨v, σ', H', J, rv, q⟩ := hs
    exact fin2 J rv q
  | next =>
    obtain ⟨σ', H', J, q⟩ := hs
    exact fin2 (v := V.non) (u := Value.none) J rfl q
  | brk =>
    obtain ⟨_, _, _, q⟩ := hs
    exact False.elim q
  | cont =>
    obtain ⟨_, _, _, q⟩ := hs
    exact False.elim q

/-! ### all calls -/
theorem valsPick {zs : List V} {ws : List Value} (r : Vals zs ws) : ∀ perm : List Nat, Vals (perm.filterMap fun j => zs[j]?) (perm.filterMap fun j => ws[j]?)
  | [] => .nil
  | j :: perm => by
    rw [List.filterMap_cons, List.filterMap_cons]
    cases e : zs[j]? with
    | none =>
      have : ws[j]? = none := by
        rw [List.getElem?_eq_none_iff] at e ⊢
        rw [← r.length]; exact e
      rw [this]
      exact valsPick r perm
    | some v =>
      obtain ⟨u, h1, h2⟩ := r.get e
      rw [h1]
      exact .cons h2 (valsPick r perm)
theorem RUs.append {K : PySem.W.Frag} {z : Rz} {H : Hp} : ∀ {us vu : List U} {vs vv : List V}, RUs K z H us vs → RUs K z H vu vv → RUs K z H (us ++ vu) (vs ++ vv)
  | [], _, vs, _, r, q => by
    have r' : vs = [] := r
    rw [r']; exact q
  | u :: us, _, _, _, r, q => by
    obtain ⟨v, ws, rfl, r1, r2⟩ := r
    exact ⟨v, ws ++ _, rfl, r1, RUs.append r2 q⟩
theorem RUs.get {K : PySem.W.Frag} {z : Rz} {H : Hp} : ∀ {us : List U} {vs : List V} {i : Nat} {u : U}, RUs K z H us vs → us[i]? = some u → ∃ v, vs[i]? = some v ∧ RU K z H u v
  | [], _, _, _, _, h => by cases h
  | a :: us, _, i, u, r, h => by
    obtain ⟨v, ws, rfl, r1, r2⟩ := r
    cases i with
    | zero => cases h; exact ⟨v, rfl, r1⟩
    | succ i =>
      obtain ⟨w, h1, h2⟩ := RUs.get r2 (i := i) (by simpa using h)
      exact ⟨w, by simpa using h1, h2⟩
theorem RUs.pick {K : PySem.W.Frag} {z : Rz} {H : Hp} {us : List U} {vs : List V} (r : RUs K z H us vs) : ∀ perm : List Nat, RUs K z H (perm.filterMap fun j => us[j]?) (perm.filterMap fun j => vs[j]?)
  | [] => rfl
  | j :: perm => by
    rw [List.filterMap_cons, List.filterMap_cons]
    cases e : us[j]? with
    | none =>
      have : vs[j]? = none := by
        rw [List.getElem?_eq_none_iff] at e ⊢
        rw [← r.length]; exact e
      rw [this]
      exact RUs.pick r perm
    | some u =>
      obtain ⟨v, h1, h2⟩ := r.get e
      rw [h1]
      exact ⟨v, _, rfl, h2, RUs.pick r perm⟩
/-- the forms of its calls bind -/
def Bnd (K : PySem.W.Frag) (c0 : Sc) (i : Nat) (fd : FuncData) (ps : List Str) : Prop := ∀ (n : Nat) (ks : List Str) (perm : List Nat), (i, n, ks, perm) ∈ c0.pt → ∀ (s : Shared) (us ws : List Value), K.In s.heap → us.length = n → ws.length = ks.length →
  BindsTo s fd ⟨us, ks.zip ws⟩ (ps.zip (us ++ perm.filterMap fun j => ws[j]?))
def Dfs (B : Bs) (c0 : Sc) (T : Tab) : Prop := ∀ (i : Nat) (x : Str), c0.fs[i]? = some x → ∃ (d : Fd) (a : Addr) (fd : FuncData) (ps : List Str), T[i]? = some d ∧ Df B c0 i x d a fd ps ∧ PySem.W.keepIn B.K (.ref a) = true ∧ Bnd B.K c0 i fd ps
theorem Dfs.calls {B : Bs} {c0 : Sc} {T : Tab} (F : Dfs B c0 T) (gl : GlOk B c0) : ∀ (k : Nat) (c : Sc), c.fs = c0.fs → c.pt = c0.pt → CallsW B k c (call T k)
  | k, c, h1, h2 => by
    have IH : ∀ k', k = k' + 1 → ∀ c : Sc, c.fs = c0.fs → c.pt = c0.pt → CallsW B k' c (call T k') := fun k' hk c a b => Dfs.calls F gl k' c a b
    intro i n ks perm x hp hx
    rw [h2] at hp
    rw [h1] at hx
    obtain ⟨d, a, fd, ps, hT, D, kp, hB⟩ := F i x hx
    refine ⟨a, D.mg, kp, fun X of G hr us kv S S' u z H vs zs Q l1 l2 e so r1 r2 q => ?_⟩
    cases k with
    | zero => cases e
    | succ k =>
      unfold call at e
      simp only [hT] at e
      split at e
      · rename_i hl
        intro pins s σ uv wv I rv rz
        have hb := hB n ks perm hp s uv wv (by rw [← of.K]; exact I.kIn) (by rw [← rv.length, ← r1.length]; exact l1) (by rw [← rz.length, ← r2.length]; exact l2)
        have e0 := I.env0
        rw [of.P, of.w, of.K, of.mg, of.base] at e0
        rw [of.K] at so r1 r2 q
        have ru : RUs B.K z H (permU us perm kv) (vs ++ perm.filterMap fun j => zs[j]?) := r1.append (r2.pick perm)
        have run := D.run gl (IH k rfl) hr G.grd e0 hb (rv.append (valsPick rz perm)) hl.1 e so ru q
        rw [← of.P, ← of.w] at run
        refine wpAny_call (codeAny_mono run fun r s' hq => ?_)
        cases r with
        | error e => exact False.elim hq
        | ok fl =>
          cases fl with
          | ret u => exact I.after hq
          | next => exact False.elim hq
          | brk => exact False.elim hq
          | cont => exact False.elim hq
      · cases e

/-! ### the law's call -/
/-- the law's def says yes of every script -/
theorem law_run {P : Program} {w : World} {K : PySem.W.Frag} {mg mb : Str → Option Value} {c0 : Sc} {T : Tab} {i k : Nat} {x : Str} {fa a : Addr} {s₁ : Shared} {vs : List Value} {ns : List Int} {d : Fd}
    (KX : K.In s₁.heap) (hns : s₁.heap.Ns mainGlobals mg) (hb : s₁.heap.Ns builtinsNs mb) (hbb : ∀ x : Str, x ≠ "__name__" → mb x = bootBuiltins x) (hlim : s₁.heap.NoLimit) (hg : s₁.gens = #[])
    (ha : s₁.heap.get? a = some { cls := .type "list", data := .seq vs.toArray }) (hi : IntsAre vs ns) (hl : ns.length ≤ sizeLine) (hr : Room (k + 1) callerA) (hgl : ∀ base : Heap, K.In base → base.Ns mainGlobals mg → GlOk ⟨P, w, K, mg, base⟩ c0)
    (hD : ∀ base : Heap, K.In base → base.Ns mainGlobals mg → Dfs ⟨P, w, K, mg, base⟩ c0 T) (hx : c0.fs[i]? = some x) (hmg : mg x = some (.ref fa)) (hpt : (i, 1, [], []) ∈ c0.pt) (hT : T[i]? = some d)
    (hcall : ∃ S', call T (k + 1) i [.k (ns.map PyData.int)] [] = .ok (.d (.bool true)) S') :
    codeAny (model P w) callerA (.call (.ref fa) ⟨[.ref a], []⟩) (fun r s' => r = .ok (.ret (.bool true)) ∧ OldK s₁.heap s'.heap ∧ s'.os = s₁.os ∧ AllBare s'.gens) s₁ := by
  obtain ⟨S', ec⟩ := hcall
  have ed : ((exSs d.code (call T k) ([U.k (ns.map PyData.int)].map some ++ List.replicate (d.nn - d.np) none) []).bind fun o S1 => fin ([] : Sto).length o S1) = .ok (.d (.bool true)) S' ∧ [U.k (ns.map PyData.int)].length = d.np := by
    unfold call at ec
    simp only [hT] at ec
    split at ec
    · rename_i h
      exact ⟨ec, h.1⟩
    · cases ec
  have rv := vals_ints hi
  have lenV := hi.length
  have RI : ∀ H0 : Hp, RpAll K H0 (ns.map V.int) (ns.map PyData.int) := fun H0 => by
    clear ec ed hi hl rv lenV
    induction ns with
    | nil => exact .nil
    | cons n ns ih => exact .cons (.int n) ih
  have core : ∀ H : Hp, Only H → SqL K H a (ns.map V.int) → HOk P w H s₁.heap → (∀ b, H b ≠ none → b = a) → (H a ≠ none → K.lookup a = none) →
      codeAny (model P w) callerA (.call (.ref fa) ⟨[.ref a], []⟩) (fun r s' => r = .ok (.ret (.bool true)) ∧ OldK s₁.heap s'.heap ∧ s'.os = s₁.os ∧ AllBare s'.gens) s₁ := by
    intro H hO hS hok only_a free_a
    have hid : ∀ {b : Addr} {o : Obj}, s₁.heap.get? b = some o → H b = none → (hidT s₁.heap H).get? b = some o := fun e n => hidT_get e n
    have nota : ∀ {b : Addr}, b ≠ a → H b = none := fun {b} ne => Classical.byContradiction fun c => ne (only_a b c)
    have ns_stays : ∀ {b : Addr} {m : Str → Option Value}, s₁.heap.Ns b m → (hidT s₁.heap H).Ns b m := fun {b m} ⟨o, es, ep, e, d, r⟩ => by
      refine ⟨o, es, ep, hid e (nota fun c => ?_), d, r⟩
      subst c
      rw [ha] at e
      cases e
      cases d
    have kin : K.In (hidT s₁.heap H) := fun b o e => hid (KX b o e) (Classical.byContradiction fun c => by
      have e2 := only_a b c
      subst e2
      rw [free_a c] at e
      cases e)
    have hM : Mod K mg (hidT s₁.heap H) := ⟨kin, ns_stays hns, ⟨mb, ns_stays hb, hbb⟩, let ⟨mc, h1, h2⟩ := hlim; ⟨mc, ns_stays h1, h2⟩⟩
    have e0 : Env0 P w K mg (hidT s₁.heap H) callerA [] s₁ H := ⟨rfl, hM, fun b o e => of_hidT e, Nat.le_of_eq (hidT_size _ _), trivial, fun b c => (List.not_mem_nil c).elim, hok, .of_eq hg⟩
    have mgN := ns_stays hns
    have gl := hgl _ kin mgN
    have so : SO K ⟨[], []⟩ H [] := ⟨rfl, fun i j p h => (by cases h), fun p h => (by rcases h with h | h <;> cases h), fun i p h => (by cases h), fun i xs h => (by cases h)⟩
    have im0 : Le H (Im ⟨[], []⟩ H) := fun b o h => Im.mk h fun c => by rcases c with c | c <;> cases c
    obtain ⟨d', a', fd, ps, hT', D, kp, hB⟩ := hD _ kin mgN i x hx
    rw [hT] at hT'
    cases hT'
    have em : (some (Value.ref a') : Option Value) = some (.ref fa) := D.mg.symm.trans hmg
    cases em
    have run := D.run (k := k) gl (fun c h1 h2 => Dfs.calls (hD _ kin mgN) gl k c h1 h2) hr rfl e0 (us := [.ref a]) (vs := [.ref a]) (args := ⟨[.ref a], []⟩) (hB 1 [] [] hpt s₁ [.ref a] [] KX rfl rfl) (.cons rfl .nil) ed.2 ed.1 so ⟨.ref a, [], rfl, ⟨a, ns.map V.int, rfl, im0.sqL hS, RI _⟩, rfl⟩
      (Q := fun v _ => v = .bl true) fun z' H' v _ _ r => by cases r; rfl
    refine codeAny_mono run fun r s' h => ?_
    cases r with
    | error e => exact False.elim h
    | ok fl =>
      cases fl with
      | next => exact False.elim h
      | brk => exact False.elim h
      | cont => exact False.elim h
      | ret u =>
        obtain ⟨v, H', os, bare, un, hok', r', q⟩ := h
        have q' : v = .bl true := q
        subst q'
        obtain rfl : u = Value.bool true := r'
        refine ⟨rfl, OldK.of_keep fun b o e => ?_, os, bare⟩
        cases hb0 : H b with
        | none => exact un.keep b o e hb0 (fun c => (List.not_mem_nil c).elim) (by simp)
        | some t =>
          rcases hO b with c | ⟨ob, xs, c⟩
          · rw [hb0] at c; cases c
          · have c2 := un.frzs b ob _ c
            obtain ⟨e1, _⟩ := hok b _ c
            obtain ⟨e2, _⟩ := hok' b _ c2
            rw [e] at e1
            cases e1
            exact e2
  cases hk : K.lookup a with
  | some o =>
    have e := KX a o hk
    rw [ha] at e
    cases e
    exact core (fun _ => none) (fun _ => .inl rfl) (.inr ⟨_, vs.toArray, _, hk, rfl, rfl, rfl, by rw [List.size_toArray, lenV]; exact hl, by simpa using rv⟩) (fun b u c => by cases (show (none : Option HO) = some u from c)) (fun b c => (c rfl).elim) fun c => (c rfl).elim
  | none =>
    generalize hH : (fun b : Addr => if b = a then some (HO.frz { cls := .type "list", data := .seq vs.toArray } (.lst (ns.map V.int))) else none) = H
    have ya : H a = some (HO.frz { cls := .type "list", data := .seq vs.toArray } (.lst (ns.map V.int))) := by rw [← hH]; exact if_pos rfl
    have yn : ∀ b, b ≠ a → H b = none := fun b c => by rw [← hH]; exact if_neg c
    refine core H (fun b => ?_) (.inl (.inr ⟨_, ya⟩)) (fun b u c => ?_) (fun b c => Classical.byContradiction fun d => c (yn b d)) fun _ => hk
    · by_cases c : b = a
      · subst c; exact .inr ⟨_, _, ya⟩
      · exact .inl (yn b c)
    · by_cases d : b = a
      · subst d
        rw [ya] at c
        cases c
        exact ⟨ha, by rw [List.length_map]; exact hl, vs, _, rv, ha⟩
      · rw [yn b d] at c
        cases c
end Ev

/-! Ev9: the text is compiled. -/
namespace Ev
open PySem PySem.Spec PyProof.Rows L2

/-- what is told of a def: its lists that change, its end that is a list of one's own -/
structure Cfg where
  mu : List Str
  rm : Bool
def gate {α : Type} (b : Bool) (x : Option α) : Option α := match b with
  | true => x
  | false => none
theorem gate_some {α : Type} {b : Bool} {x : Option α} {a : α} (h : gate b x = some a) : b = true ∧ x = some a := by
  cases b with
  | true => exact ⟨rfl, h⟩
  | false => cases h
def ob {α β : Type} (x : Option α) (f : α → Option β) : Option β := match x with
  | some a => f a
  | none => none
theorem ob_some {α β : Type} {x : Option α} {f : α → Option β} {b : β} (h : ob x f = some b) : ∃ a, x = some a ∧ f a = some b := by
  cases x with
  | some a => exact ⟨a, rfl, h⟩
  | none => cases h
def ixOf : List Str → Str → Option Nat
  | [], _ => none
  | y :: r, x => if y = x then some 0 else (ixOf r x).map (· + 1)
theorem ixOf_ok : ∀ {l : List Str} {x : Str} {i : Nat}, ixOf l x = some i → l[i]? = some x
  | [], _, _, h => by cases h
  | y :: r, x, i, h => by
    unfold ixOf at h
    split at h
    · rename_i e
      cases h
      simp [e]
    · cases e : ixOf r x with
      | none => rw [e] at h; cases h
      | some j =>
        rw [e] at h
        cases h
        simpa using ixOf_ok e
def kindB (sc : Scope) (x : Str) (k : NameKind) : Bool := decide (sc.names.lookup x = some k)
theorem kindB_ok {sc : Scope} {x : Str} {k : NameKind} (h : kindB sc x k = true) : sc.names.lookup x = some k := of_decide_eq_true h
def visB (sc : Scope) (x : Str) : Bool := kindB sc x .local || kindB sc x .cell || kindB sc x .free
theorem visB_ok {sc : Scope} {x : Str} (h : visB sc x = true) : Vis sc x := by
  unfold visB at h
  rcases Bool.or_eq_true_iff.mp h with h | h
  · rcases Bool.or_eq_true_iff.mp h with h | h
    · exact .inl (kindB_ok h)
    · exact .inr (.inl (kindB_ok h))
  · exact .inr (.inr (kindB_ok h))
def locB (sc : Scope) (x : Str) : Bool := kindB sc x .local || kindB sc x .cell
theorem locB_ok {sc : Scope} {x : Str} (h : locB sc x = true) : Loc sc x := by
  rcases Bool.or_eq_true_iff.mp h with h | h
  · exact .inl (kindB_ok h)
  · exact .inr (kindB_ok h)
def nB (x : Str) (y : Str) : Bool := !(x == y)
theorem nB_ok {x y : Str} (h : nB x y = true) : (x == y) = false := by
  unfold nB at h
  simpa using h
def gloB (c : Sc) (x : Str) : Bool := kindB c.sc x .globalImplicit && nB x "__debug__"
theorem gloB_ok {c : Sc} {x : Str} (h : gloB c x = true) : GlS c x := by
  obtain ⟨a, b⟩ := Bool.and_eq_true_iff.mp h
  exact ⟨kindB_ok a, nB_ok b⟩
def storeB (c : Sc) (x : Str) : Bool := c.fn x || kindB c.sc x .local
theorem storeB_ok {c : Sc} {x : Str} (h : storeB c x = true) : c.fn x = true ∨ c.sc.names.lookup x = some .local := by
  rcases Bool.or_eq_true_iff.mp h with h | h
  · exact .inl h
  · exact .inr (kindB_ok h)
def bfs : List Bf := [.len, .all, .any, .tuple, .abs, .min, .max, .int, .repr, .sum, .divmod, .bool]
def bfOf (c : Sc) (m : Bool) (x : Str) : Option Bf := match c.ms.lookup x with
  | some f => match f with
    | .list _ => none
    | f => some f
  | none => if x = bfName (.list m) then some (.list m) else bfs.find? fun f => decide (x = bfName f)
theorem bfOf_ok {c : Sc} {m : Bool} {x : Str} {f : Bf} (h : bfOf c m x = some f) : ((bfFree f = true ∧ x = bfName f) ∨ c.ms.lookup x = some f) ∧ ∀ n, f = .list n → n = m := by
  unfold bfOf at h
  cases e : c.ms.lookup x with
  | some g =>
    simp only [e] at h
    cases g <;> first | (cases h; done) | (cases h; exact ⟨.inr rfl, fun n h => by cases h⟩)
  | none =>
    simp only [e] at h
    split at h
    · rename_i hx
      cases h
      exact ⟨.inl ⟨rfl, hx⟩, fun n h => by cases h; rfl⟩
    · have h1 := List.find?_some h
      have h2 := List.mem_of_find?_eq_some h
      simp only [decide_eq_true_eq] at h1
      simp only [bfs, List.mem_cons, List.not_mem_nil, or_false] at h2
      rcases h2 with rfl | rfl | rfl | rfl | rfl | rfl | rfl | rfl | rfl | rfl | rfl | rfl <;> exact ⟨.inl ⟨rfl, h1⟩, fun n h => by cases h⟩
def tys : List Ty := [.int, .bool, .tuple, .list, .str]
def tyOf (x : Str) : Option Ty := tys.find? fun t => decide (x = tyS t)
theorem tyOf_ok {x : Str} {t : Ty} (h : tyOf x = some t) : x = tyS t := by
  have h1 := List.find?_some h
  simpa using h1
def mts : List Mt := [.append, .extend, .pop]
def mtOf (x : Str) : Option Mt := mts.find? fun t => decide (x = mtS t)
theorem mtOf_ok {x : Str} {t : Mt} (h : mtOf x = some t) : x = mtS t ∧ mtOk t = true := by
  have h1 := List.find?_some h
  have h2 := List.mem_of_find?_eq_some h
  simp only [decide_eq_true_eq] at h1
  simp only [mts, List.mem_cons, List.not_mem_nil, or_false] at h2
  refine ⟨h1, ?_⟩
  rcases h2 with rfl | rfl | rfl <;> rfl
def blkB (N : List Str) (sc scope : Scope) (own : List (Str × Nat)) : Bool :=
  decide (scope.kind = .function ∧ (∀ y ∈ scope.names, scope.names.lookup y.1 = some y.2) ∧ (∀ p ∈ own, N[p.2]? = some p.1) ∧ (∀ y ∈ scope.names, y.2 = .free → sc.names.lookup y.1 = some .cell ∨ sc.names.lookup y.1 = some .free) ∧
    ∀ y ∈ scope.names, y.2 = .local ∨ y.2 = .cell → y.1 ∈ own.map (·.1) ∨ y.1 ∉ N)
theorem blkB_ok {N : List Str} {sc scope : Scope} {own : List (Str × Nat)} (h : blkB N sc scope own = true) : BlkOk N sc scope own := by
  obtain ⟨a, b, c, d, e⟩ := of_decide_eq_true h
  exact ⟨a, b, c, d, e⟩
def ownOf (N : List Str) (scope : Scope) : List (Str × Nat) := scope.names.filterMap fun y => match y.2 with
  | .local => (ixOf N y.1).map fun i => (y.1, i)
  | .cell => (ixOf N y.1).map fun i => (y.1, i)
  | _ => none

def o2Of (x : Str) : Option O2 := [O2.index, .count].find? fun t => decide (x = o2S t)
theorem o2Of_ok {x : Str} {t : O2} (h : o2Of x = some t) : x = o2S t := by
  have h1 := List.find?_some h
  simpa using h1
mutual
def Tg.names : Tg → List Nat
  | .name i => [i]
  | .sub _ _ => []
  | .tup ts => ts.names
def Tgs.names : Tgs → List Nat
  | .nil => []
  | .cons t ts => t.names ++ ts.names
end
/-! ### expressions -/
abbrev CF0 := Sc → Bool → Expr → Option Ex
def cEs (f : Expr → Option Ex) : List Expr → Option Exs
  | [] => some .nil
  | e :: es => ob (f e) fun x => ob (cEs f es) fun xs => some (.cons x xs)
def cKs (f : Expr → Option Ex) : List Keyword → Option (List Str × Exs)
  | [] => some ([], .nil)
  | ⟨some n, e, _⟩ :: ks => ob (f e) fun x => ob (cKs f ks) fun r => some (n :: r.1, .cons x r.2)
  | ⟨none, _, _⟩ :: _ => none
def cO (f : Expr → Option Ex) : Option Expr → Option Eo
  | none => some .none
  | some e => ob (f e) fun x => some (.some x)
def cF (f : Expr → Option Ex) : List Expr → Option Exs
  | [] => some .nil
  | [e] => ob (f e) fun x => some (.cons x .nil)
  | _ => none
def isTp : Expr → Bool
  | .Tuple .. => true
  | _ => false
def cI (c : Sc) (f : Expr → Option Ex) (tg iter : Expr) : Option Itr := match iter with
  | .Call (.Name x _) args ks _ => match decide (x = "range"), ks, args with
    | true, [], [a] => gate (gloB c x) (ob (f a) fun u => some (.range1 u))
    | true, [], [a, b] => gate (gloB c x) (ob (f a) fun u => ob (f b) fun v => some (.range2 u v))
    | _, ks, args => match decide (x = "enumerate"), ks, args with
      | true, [], [a] => gate (gloB c x && isTp tg) (ob (f a) fun u => some (.enum u))
      | _, ks, args => match decide (x = "zip"), ks, args with
        | true, [], [a, b] => gate (gloB c x && isTp tg) (ob (f a) fun u => ob (f b) fun v => some (.zip u v))
        | true, [], [a, b, d] => gate (gloB c x && isTp tg) (ob (f a) fun u => ob (f b) fun v => ob (f d) fun w => some (.zip3 u v w))
        | _, ks, args => match decide (x = "reversed"), ks, args with
          | true, [], [a] => gate (gloB c x) (ob (f a) fun u => some (.rev u))
          | _, _, _ => ob (f iter) fun x => some (.ex x)
  | _ => ob (f iter) fun x => some (.ex x)
def cTs (g : Expr → Option Tg) : List Expr → Option Tgs
  | [] => some .nil
  | e :: es => ob (g e) fun x => ob (cTs g es) fun xs => some (.cons x xs)
def cT (c : Sc) (f : Expr → Option Ex) : Nat → Expr → Option Tg
  | 0, _ => none
  | n + 1, .Name x _ => ob (ixOf c.N x) fun i => gate (locB c.sc x && storeB c x) (some (.name i))
  | n + 1, .Subscript o i _ => gate (notSlice i) (ob (f o) fun x => ob (f i) fun y => some (.sub x y))
  | n + 1, .Tuple es _ _ => ob (cTs (cT c f n) es) fun ts => some (.tup ts)
  | _, _ => none
def cCall (c : Sc) (m : Bool) (f : Expr → Option Ex) (x : Str) (es : List Expr) (ks : List Keyword) : Option Ex :=
  gate (gloB c x) (match ixOf c.fs x with
    | some i => ob (cEs f es) fun xs => match ks with
      | [] => gate (decide ((i, es.length, [], []) ∈ c.pt)) (some (.call i xs))
      | ks => ob (cKs f ks) fun r => ob (c.pt.find? fun p => decide (p.1 = i ∧ p.2.1 = es.length ∧ p.2.2.1 = r.1)) fun p => some (.callk i xs p.2.2.2 r.2)
    | none => match ks, es with
      | [], [e, .Name t _] => match decide (x = "isinstance") with
        | true => ob (tyOf t) fun ty => gate (gloB c t) (ob (f e) fun u => some (.isi u ty))
        | false => ob (bfOf c m x) fun b => ob (cEs f es) fun xs => some (.blt b xs)
      | [], e :: _ => ob (bfOf c m x) fun b => ob (cEs f es) fun xs => some (.blt b xs)
      | _, _ => none)
def cE : Nat → CF0
  | 0, _, _, _ => none
  | n + 1, c, m, e => match e with
    | .Name x _ => match kindB c.sc x .globalImplicit with
      | true => gate (nB x "__debug__") (ob (c.cs.lookup x) fun d => some (.con d))
      | false => ob (ixOf c.N x) fun i => gate (visB c.sc x && nB x "__debug__" && nB x "__classdict__") (some (.var i))
    | .Constant v _ _ => match v with
      | .int i => some (.con (.int i))
      | .str x => some (.con (.str x))
      | .bool b => some (.con (.bool b))
      | .none => some (.con .none)
      | _ => none
    | .BinOp a op b _ => ob (cE n c false a) fun x => ob (cE n c false b) fun y => some (.bin m op x y)
    | .UnaryOp op a _ => match op with
      | .USub => ob (cE n c false a) fun x => some (.neg x)
      | .Not => ob (cE n c false a) fun x => some (.not x)
      | _ => none
    | .BoolOp op es pos => match es with
      | [a] => cE n c false a
      | a :: b :: r => ob (cE n c false a) fun x => ob (cE n c false (.BoolOp op (b :: r) pos)) fun y => match op with
        | .And => some (.and x y)
        | .Or => some (.or x y)
      | [] => none
    | .Compare a ops bs _ => match ops, bs with
      | [op], [b] => gate (!behindInMarks op b) (ob (cE n c false a) fun x => ob (cE n c false b) fun y => some (.cmp op x y))
      | [op, op2], [b, d] => gate (!lastMarks [op, op2] [b, d]) (ob (cE n c false a) fun x => ob (cE n c false b) fun y => ob (cE n c false d) fun w => some (.cmp2 op op2 x y w))
      | _, _ => none
    | .IfExp t a b _ => ob (cE n c false t) fun x => ob (cE n c m a) fun y => ob (cE n c m b) fun w => some (.ite x y w)
    | .Call f es ks pos => match f with
      | .Name x _ => cCall c m (cE n c false) x es ks
      | .Attribute o x apos => match ks with
        | [] => match mtOf x with
          | some f => gate (apos.endLine == pos.line && notCall o && decide (es.length < 20)) (ob (cE n c false o) fun u => ob (cEs (cE n c false) es) fun xs => some (.meth f u xs))
          | none => match es with
            | [] => gate (decide (x = "bit_length") && (apos.endLine == pos.line && notCall o)) (ob (cE n c false o) fun u => some (.op1 .bits u))
            | [e] => ob (o2Of x) fun f => gate (apos.endLine == pos.line && notCall o) (ob (cE n c false o) fun u => ob (cE n c false e) fun w => some (.op2 f u w))
            | _ => none
        | _ => none
      | _ => none
    | .Subscript a b _ => match b with
      | .Slice lo hi st _ => match st with
        | none => ob (cE n c false a) fun x => ob (cO (cE n c false) lo) fun y => ob (cO (cE n c false) hi) fun w => some (.sl m x y w)
        | some (.UnaryOp .USub (.Constant (.int 1) _ _) _) => match lo, hi with
          | none, none => ob (cE n c false a) fun x => some (.op1 .rev x)
          | _, _ => none
        | some _ => none
      | b => ob (cE n c false a) fun x => ob (cE n c false b) fun y => some (.idx x y)
    | .Tuple es _ _ => ob (cEs (cE n c false) es) fun xs => some (.tup xs)
    | .List es _ => ob (cEs (cE n c false) es) fun xs => some (.lst m xs)
    | .ListComp elt gs scope _ => match gs with
      | [⟨tg, iter, ifs, 0⟩] => gate (blkB c.N c.sc scope (ownOf c.N scope) && notSet iter) (ob (cI c (cE n c false) tg iter) fun it => ob (cT (c.blk scope) (cE n (c.blk scope) false) 5 tg) fun t =>
          gate (t.within ((ownOf c.N scope).map (·.2))) (ob (cF (cE n (c.blk scope) false) ifs) fun fs => ob (cE n (c.blk scope) false elt) fun x => some (.comp m ((ownOf c.N scope).map (·.2)) t it fs x)))
      | [⟨tg, iter, ifs, 0⟩, ⟨tg1, iter1, ifs1, 0⟩] => gate (blkB c.N c.sc scope (ownOf c.N scope) && (notSet iter && notSet iter1)) (ob (cI c (cE n c false) tg iter) fun it => ob (cT (c.blk scope) (cE n (c.blk scope) false) 5 tg) fun t =>
          gate (t.within ((ownOf c.N scope).map (·.2))) (ob (cF (cE n (c.blk scope) false) ifs) fun fs => ob (cI (c.blk scope) (cE n (c.blk scope) false) tg1 iter1) fun it1 => ob (cT (c.blk scope) (cE n (c.blk scope) false) 5 tg1) fun t1 =>
            gate (t1.within t1.names && t1.names.all fun i => ((ownOf c.N scope).map (·.2)).contains i) (ob (cF (cE n (c.blk scope) false) ifs1) fun fs1 => ob (cE n (c.blk scope) false elt) fun x => some (.comp2 m ((ownOf c.N scope).map (·.2)) t it fs t1.names t1 it1 fs1 x))))
      | _ => none
    | _ => none

section
variable {c : Sc} {f : Expr → Option Ex}
theorem cEs_ok (h : ∀ e x, f e = some x → CE c false e x) : ∀ {es : List Expr} {xs : Exs}, cEs f es = some xs → CEs c es xs
  | [], _, e => by unfold cEs at e; cases e; exact .nil
  | a :: es, _, e => by
    unfold cEs at e
    obtain ⟨x, e1, e⟩ := ob_some e
    obtain ⟨xs, e2, e⟩ := ob_some e
    cases e
    exact .cons (h _ _ e1) (cEs_ok h e2)
theorem cKs_ok (h : ∀ e x, f e = some x → CE c false e x) : ∀ {es : List Keyword} {r : List Str × Exs}, cKs f es = some r → CKs c es r.1 r.2
  | [], _, e => by unfold cKs at e; cases e; exact .nil
  | ⟨some n, a, p⟩ :: es, _, e => by
    unfold cKs at e
    obtain ⟨x, e1, e⟩ := ob_some e
    obtain ⟨xs, e2, e⟩ := ob_some e
    cases e
    exact .cons (h _ _ e1) (cKs_ok h e2)
  | ⟨none, a, p⟩ :: es, _, e => by unfold cKs at e; cases e
theorem cO_ok (h : ∀ e x, f e = some x → CE c false e x) : ∀ {es : Option Expr} {xs : Eo}, cO f es = some xs → CO c es xs
  | none, _, e => by unfold cO at e; cases e; exact .none
  | some a, _, e => by
    unfold cO at e
    obtain ⟨x, e1, e⟩ := ob_some e
    cases e
    exact .some (h _ _ e1)
theorem cF_ok (h : ∀ e x, f e = some x → CE c false e x) : ∀ {es : List Expr} {xs : Exs}, cF f es = some xs → CF c es xs
  | [], _, e => by unfold cF at e; cases e; exact .nil
  | [a], _, e => by
    unfold cF at e
    obtain ⟨x, e1, e⟩ := ob_some e
    cases e
    exact .one (h _ _ e1)
  | _ :: _ :: _, _, e => by unfold cF at e; cases e
theorem isTp_ok {tg : Expr} (h : isTp tg = true) : ∃ es k p, tg = .Tuple es k p := by
  cases tg <;> first | exact ⟨_, _, _, rfl⟩ | cases h
theorem cI_ok (h : ∀ e x, f e = some x → CE c false e x) {tg iter : Expr} {it : Itr} (e : cI c f tg iter = some it) : CI c tg iter it := by
  have plain : ∀ {e : Expr} {it : Itr}, (ob (f e) fun x => some (Itr.ex x)) = some it → CI c tg e it := fun e => by
    obtain ⟨x, e1, e⟩ := ob_some e
    cases e
    exact .ex (h _ _ e1)
  unfold cI at e
  split at e
  · split at e
    · have hx := of_decide_eq_true (by assumption : decide (_ = ("range" : Str)) = true)
      subst hx
      obtain ⟨g, e⟩ := gate_some e
      obtain ⟨x, e1, e⟩ := ob_some e
      cases e
      exact .range1 (gloB_ok g) (h _ _ e1)
    · have hx := of_decide_eq_true (by assumption : decide (_ = ("range" : Str)) = true)
      subst hx
      obtain ⟨g, e⟩ := gate_some e
      obtain ⟨x, e1, e⟩ := ob_some e
      obtain ⟨y, e2, e⟩ := ob_some e
      cases e
      exact .range2 (gloB_ok g) (h _ _ e1) (h _ _ e2)
    · split at e
      · have hx := of_decide_eq_true (by assumption : decide (_ = ("enumerate" : Str)) = true)
        subst hx
        obtain ⟨g, e'⟩ := gate_some e
        clear e
        obtain ⟨g1, g2⟩ := Bool.and_eq_true_iff.mp g
        obtain ⟨es, k, p, rfl⟩ := isTp_ok g2
        obtain ⟨x, e1, e2⟩ := ob_some e'
        cases e2
        exact .enum (gloB_ok g1) (h _ _ e1)
      · split at e
        · have hx := of_decide_eq_true (by assumption : decide (_ = ("zip" : Str)) = true)
          subst hx
          obtain ⟨g, e'⟩ := gate_some e
          clear e
          obtain ⟨g1, g2⟩ := Bool.and_eq_true_iff.mp g
          obtain ⟨es, k, p, rfl⟩ := isTp_ok g2
          obtain ⟨x, e1, e3⟩ := ob_some e'
          obtain ⟨y, e2, e4⟩ := ob_some e3
          cases e4
          exact .zip (gloB_ok g1) (h _ _ e1) (h _ _ e2)
        · have hx := of_decide_eq_true (by assumption : decide (_ = ("zip" : Str)) = true)
          subst hx
          obtain ⟨g, e'⟩ := gate_some e
          clear e
          obtain ⟨g1, g2⟩ := Bool.and_eq_true_iff.mp g
          obtain ⟨es, k, p, rfl⟩ := isTp_ok g2
          obtain ⟨x, e1, e3⟩ := ob_some e'
          obtain ⟨y, e2, e4⟩ := ob_some e3
          obtain ⟨w, e5, e6⟩ := ob_some e4
          cases e6
          exact .zip3 (gloB_ok g1) (h _ _ e1) (h _ _ e2) (h _ _ e5)
        · split at e
          · have hx := of_decide_eq_true (by assumption : decide (_ = ("reversed" : Str)) = true)
            subst hx
            obtain ⟨g, e⟩ := gate_some e
            obtain ⟨x, e1, e⟩ := ob_some e
            cases e
            exact .rev (gloB_ok g) (h _ _ e1)
          · exact plain e
  · exact plain e
theorem cTs_ok {g : Expr → Option Tg} (h : ∀ e x, g e = some x → CT c e x) : ∀ {es : List Expr} {xs : Tgs}, cTs g es = some xs → CTs c es xs
  | [], _, e => by unfold cTs at e; cases e; exact .nil
  | a :: es, _, e => by
    unfold cTs at e
    obtain ⟨x, e1, e⟩ := ob_some e
    obtain ⟨xs, e2, e⟩ := ob_some e
    cases e
    exact .cons (h _ _ e1) (cTs_ok h e2)
theorem cT_ok (h : ∀ e x, f e = some x → CE c false e x) : ∀ (n : Nat) (e : Expr) (t : Tg), cT c f n e = some t → CT c e t
  | 0, _, _, e => by unfold cT at e; cases e
  | n + 1, tg, t, e => by
    unfold cT at e
    split at e
    · cases e
    · obtain ⟨i, e1, e⟩ := ob_some e
      obtain ⟨g, e⟩ := gate_some e
      cases e
      obtain ⟨a, b⟩ := Bool.and_eq_true_iff.mp g
      exact .name (ixOf_ok e1) (locB_ok a) (storeB_ok b)
    · obtain ⟨g, e⟩ := gate_some e
      obtain ⟨x, e1, e⟩ := ob_some e
      obtain ⟨y, e2, e⟩ := ob_some e
      cases e
      exact .sub (h _ _ e1) (h _ _ e2) g
    · obtain ⟨ts, e1, e⟩ := ob_some e
      cases e
      rename_i n' _ _ _ _ heq
      cases heq
      exact .tup (cTs_ok (cT_ok h n) e1)
    · cases e
theorem cCall_ok (h : ∀ e x, f e = some x → CE c false e x) {m : Bool} {x : Str} {es : List Expr} {ks : List Keyword} {p pos : Pos} {v : Ex} (e : cCall c m f x es ks = some v) : CE c m (.Call (.Name x p) es ks pos) v := by
  unfold cCall at e
  obtain ⟨g, e⟩ := gate_some e
  have g := gloB_ok g
  split at e
  · rename_i i hi
    obtain ⟨xs, e1, e⟩ := ob_some e
    split at e
    · obtain ⟨g2, e⟩ := gate_some e
      cases e
      exact .call g (ixOf_ok hi) (cEs_ok h e1) (of_decide_eq_true g2)
    · obtain ⟨r, e2, e⟩ := ob_some e
      obtain ⟨p, e3, e⟩ := ob_some e
      cases e
      have h1 := List.find?_some e3
      have h2 := List.mem_of_find?_eq_some e3
      obtain ⟨p1, p2, p3, p4⟩ := p
      simp only [decide_eq_true_eq] at h1
      obtain ⟨rfl, rfl, rfl⟩ := h1
      exact .callk g (ixOf_ok hi) (cEs_ok h e1) (cKs_ok h e2) h2
  · have bl : ∀ {a : Expr} {es : List Expr} {v : Ex}, (ob (bfOf c m x) fun b => ob (cEs f (a :: es)) fun xs => some (Ex.blt b xs)) = some v → CE c m (.Call (.Name x p) (a :: es) [] pos) v := fun e => by
      obtain ⟨b, e1, e⟩ := ob_some e
      obtain ⟨xs, e2, e⟩ := ob_some e
      cases e
      obtain ⟨h1, h2⟩ := bfOf_ok e1
      exact .blt g h1 h2 (cEs_ok h e2)
    split at e
    · split at e
      · rename_i hx
        have hx := of_decide_eq_true hx
        obtain ⟨ty, e1, e⟩ := ob_some e
        obtain ⟨g2, e⟩ := gate_some e
        obtain ⟨u, e2, e⟩ := ob_some e
        cases e
        have ht := tyOf_ok e1
        subst hx ht
        exact .isi g (gloB_ok g2) (h _ _ e2)
      · exact bl e
    · exact bl e
    · cases e
end
theorem cE_ok : ∀ (n : Nat) (c : Sc) (m : Bool) (e : Expr) (x : Ex), cE n c m e = some x → CE c m e x
  | 0, _, _, _, _, h => by unfold cE at h; cases h
  | n + 1, c, m, e, x, h => by
    have IH : ∀ (c : Sc) (e : Expr) (x : Ex), cE n c false e = some x → CE c false e x := fun c e x h => cE_ok n c false e x h
    have IM : ∀ (m : Bool) (c : Sc) (e : Expr) (x : Ex), cE n c m e = some x → CE c m e x := fun m c e x h => cE_ok n c m e x h
    unfold cE at h
    split at h
    · split at h
      · rename_i hk
        obtain ⟨g, h⟩ := gate_some h
        obtain ⟨d, e1, h⟩ := ob_some h
        cases h
        exact .gvar ⟨kindB_ok hk, nB_ok g⟩ e1
      · obtain ⟨i, e1, h⟩ := ob_some h
        obtain ⟨g, h⟩ := gate_some h
        cases h
        obtain ⟨g, g3⟩ := Bool.and_eq_true_iff.mp g
        obtain ⟨g1, g2⟩ := Bool.and_eq_true_iff.mp g
        exact .var (ixOf_ok e1) (visB_ok g1) (nB_ok g2) (nB_ok g3)
    · split at h <;> first | (cases h; done) | skip
      · cases h; exact .int
      · cases h; exact .str
      · cases h; exact .bl
      · cases h; exact .non
    · obtain ⟨x, e1, h⟩ := ob_some h
      obtain ⟨y, e2, h⟩ := ob_some h
      cases h
      exact .bin (IH _ _ _ e1) (IH _ _ _ e2)
    · split at h <;> first | (cases h; done) | skip
      · obtain ⟨x, e1, h⟩ := ob_some h
        cases h
        exact .neg (IH _ _ _ e1)
      · obtain ⟨x, e1, h⟩ := ob_some h
        cases h
        exact .not (IH _ _ _ e1)
    · split at h
      · exact .one (IH _ _ _ h)
      · obtain ⟨x, e1, h⟩ := ob_some h
        obtain ⟨y, e2, h⟩ := ob_some h
        split at h
        · cases h; exact .and (IH _ _ _ e1) (IH _ _ _ e2)
        · cases h; exact .or (IH _ _ _ e1) (IH _ _ _ e2)
      · cases h
    · split at h
      · obtain ⟨g, h⟩ := gate_some h
        obtain ⟨x, e1, h⟩ := ob_some h
        obtain ⟨y, e2, h⟩ := ob_some h
        cases h
        exact .cmp (IH _ _ _ e1) (IH _ _ _ e2) (by simpa using g)
      · obtain ⟨g, h⟩ := gate_some h
        obtain ⟨x, e1, h⟩ := ob_some h
        obtain ⟨y, e2, h⟩ := ob_some h
        obtain ⟨w, e3, h⟩ := ob_some h
        cases h
        exact .cmp2 (IH _ _ _ e1) (IH _ _ _ e2) (IH _ _ _ e3) (by simpa using g)
      · cases h
    · obtain ⟨x, e1, h⟩ := ob_some h
      obtain ⟨y, e2, h⟩ := ob_some h
      obtain ⟨w, e3, h⟩ := ob_some h
      cases h
      exact .ite (IH _ _ _ e1) (IM _ _ _ _ e2) (IM _ _ _ _ e3)
    · split at h
      · exact cCall_ok (IH c) h
      · split at h
        · split at h
          · rename_i f e1
            obtain ⟨g, h⟩ := gate_some h
            obtain ⟨u, e2, h⟩ := ob_some h
            obtain ⟨xs, e3, h⟩ := ob_some h
            cases h
            obtain ⟨rfl, ho⟩ := mtOf_ok e1
            obtain ⟨g, g3⟩ := Bool.and_eq_true_iff.mp g
            obtain ⟨g1, g2⟩ := Bool.and_eq_true_iff.mp g
            exact .meth ho (IH _ _ _ e2) (cEs_ok (IH c) e3) g1 g2 (of_decide_eq_true g3)
          · split at h
            · obtain ⟨g, h⟩ := gate_some h
              obtain ⟨u, e2, h⟩ := ob_some h
              cases h
              obtain ⟨g1, g⟩ := Bool.and_eq_true_iff.mp g
              obtain ⟨g2, g3⟩ := Bool.and_eq_true_iff.mp g
              have hx := of_decide_eq_true g1
              subst hx
              exact .bits (IH _ _ _ e2) g2 g3
            · obtain ⟨f, e1, h⟩ := ob_some h
              obtain ⟨g, h⟩ := gate_some h
              obtain ⟨u, e2, h⟩ := ob_some h
              obtain ⟨w, e3, h⟩ := ob_some h
              cases h
              obtain ⟨g2, g3⟩ := Bool.and_eq_true_iff.mp g
              have hx := o2Of_ok e1
              subst hx
              exact .op2 (IH _ _ _ e2) (IH _ _ _ e3) g2 g3
            · cases h
        · cases h
      · cases h
    · split at h
      · split at h
        · obtain ⟨x, e1, h⟩ := ob_some h
          obtain ⟨y, e2, h⟩ := ob_some h
          obtain ⟨w, e3, h⟩ := ob_some h
          cases h
          exact .sl (IH _ _ _ e1) (cO_ok (IH c) e2) (cO_ok (IH c) e3)
        · split at h
          · obtain ⟨x, e1, h⟩ := ob_some h
            cases h
            exact .rev (IH _ _ _ e1)
          · cases h
        · cases h
      · obtain ⟨x, e1, h⟩ := ob_some h
        obtain ⟨y, e2, h⟩ := ob_some h
        cases h
        exact .idx (IH _ _ _ e1) (IH _ _ _ e2)
    · obtain ⟨xs, e1, h⟩ := ob_some h
      cases h
      exact .tup (cEs_ok (IH c) e1)
    · obtain ⟨xs, e1, h⟩ := ob_some h
      cases h
      exact .lst (cEs_ok (IH c) e1)
    · split at h
      · rename_i elt gs scope pos tg iter ifs
        obtain ⟨g, h⟩ := gate_some h
        obtain ⟨it, e1, h⟩ := ob_some h
        obtain ⟨t, e2, h⟩ := ob_some h
        obtain ⟨gw, h⟩ := gate_some h
        obtain ⟨fs, e3, h⟩ := ob_some h
        obtain ⟨x, e4, h⟩ := ob_some h
        cases h
        obtain ⟨g1, g2⟩ := Bool.and_eq_true_iff.mp g
        exact .comp (blkB_ok g1) (cI_ok (IH c) e1) (cT_ok (IH _) _ _ _ e2) gw (cF_ok (IH _) e3) (IH _ _ _ e4) g2
      · obtain ⟨g, h⟩ := gate_some h
        obtain ⟨it, e1, h⟩ := ob_some h
        obtain ⟨t, e2, h⟩ := ob_some h
        obtain ⟨gw, h⟩ := gate_some h
        obtain ⟨fs, e3, h⟩ := ob_some h
        obtain ⟨it1, e4, h⟩ := ob_some h
        obtain ⟨t1, e5, h⟩ := ob_some h
        obtain ⟨gv, h⟩ := gate_some h
        obtain ⟨fs1, e6, h⟩ := ob_some h
        obtain ⟨x, e7, h⟩ := ob_some h
        cases h
        obtain ⟨g1, g⟩ := Bool.and_eq_true_iff.mp g
        obtain ⟨g2, g3⟩ := Bool.and_eq_true_iff.mp g
        obtain ⟨v1, v2⟩ := Bool.and_eq_true_iff.mp gv
        exact .comp2 (blkB_ok g1) (cI_ok (IH c) e1) (cT_ok (IH _) _ _ _ e2) gw (cF_ok (IH _) e3) (fun i hi => by
          have := List.all_eq_true.mp v2 i hi
          simpa using this) (cI_ok (IH _) e4) (cT_ok (IH _) _ _ _ e5) v1 (cF_ok (IH _) e6) (IH _ _ _ e7) g2 g3
      · cases h
    · cases h

/-! ### statements -/
def isTup : Expr → Bool
  | .Tuple .. => true
  | .List .. => true
  | _ => false
theorem noSt_of {sc : Scope} {tg e : Expr} (h : (isTup tg && isTup e) = false) : NoSt sc tg e := fun env _ => by
  cases tg <;> first | rfl | (cases e <;> first | rfl | cases h)
/-- the block's scope alone tells the swaps -/
def mock (sc : Scope) : PySem.Env := { scope := sc, locals := 0, globals := 0, cells := [] }
theorem sw_scope {e : Expr} {t : Option Expr} {l : Nat} {a b : PySem.Env} (h : a.scope = b.scope) : swapsWith e t l a = swapsWith e t l b := by
  unfold swapsWith PySem.Env.blockKind PySem.Env.kindOf
  rw [h]
theorem st_scope {ts : List Expr} {e : Expr} {a b : PySem.Env} (h : a.scope = b.scope) : swappedStores ts e a = swappedStores ts e b := by
  unfold swappedStores PySem.Env.blockKind PySem.Env.kindOf
  rw [h]
end Ev

/-! Ev10: statements compiled; the program's table; the head's hook; the end. -/
namespace Ev
open PySem PySem.Spec PyProof.Rows L2

def isP {α : Type} : Sem α → Option α
  | .pure a => some a
  | _ => none
theorem isP_ok {α : Type} {t : Sem α} {a : α} (h : isP t = some a) : t = pure a := by
  cases t <;> first | (cases h; rfl) | cases h
def swB (c : Sc) (tg e : Expr) (l : Nat) (b : Bool) : Bool := decide (isP (swapsWith e (some tg) l (mock c.sc)) = some b)
theorem swB_ok {c : Sc} {tg e : Expr} {l : Nat} {b : Bool} (h : swB c tg e l b = true) : ∀ env : PySem.Env, env.scope = c.sc → swapsWith e (some tg) l env = pure b := fun env he => by
  rw [sw_scope (b := mock c.sc) he]
  exact isP_ok (of_decide_eq_true h)
def stB (c : Sc) (ts : List Expr) (e : Expr) (r : Option (List Str)) : Bool := decide (isP (swappedStores ts e (mock c.sc)) = some r)
theorem stB_ok {c : Sc} {ts : List Expr} {e : Expr} {r : Option (List Str)} (h : stB c ts e r = true) : ∀ env : PySem.Env, env.scope = c.sc → swappedStores ts e env = pure r := fun env he => by
  rw [st_scope (b := mock c.sc) he]
  exact isP_ok (of_decide_eq_true h)
def cSs (f : Stmt → St) : List Stmt → Sts
  | [] => .nil
  | s :: ss => .cons (f s) (cSs f ss)
def cAsg (n : Nat) (c : Sc) (cf : Cfg) (tg e : Expr) (l : Nat) : Option St :=
  ob (cT c (cE n c false) 5 tg) fun t => ob (cE n c false e) fun v => gate (swB c tg e l false && stB c [tg] e none) (some (.asg t v))
def cNm (n : Nat) (c : Sc) (cf : Cfg) (x : Str) (px : Pos) (e : Expr) (l : Nat) : Option St := match e with
  | .ListComp elt gs scope p => match swB c (.Name x px) e l true, gs with
    | true, [⟨tg, iter, ifs, 0⟩] => ob (ixOf c.N x) fun i => gate (kindB c.sc x .local && blkB c.N c.sc scope (ownOf c.N scope) && notSet iter) (ob (cI c (cE n c false) tg iter) fun it => ob (cT (c.blk scope) (cE n (c.blk scope) false) 5 tg) fun t =>
          gate (t.within ((ownOf c.N scope).map (·.2))) (ob (cF (cE n (c.blk scope) false) ifs) fun fs => ob (cE n (c.blk scope) false elt) fun v => some (.asg (.name i) (.comp (cf.mu.contains x) ((ownOf c.N scope).map (·.2)) t it fs v))))
    | _, _ => ob (ixOf c.N x) fun i => gate (locB c.sc x && storeB c x && swB c (.Name x px) e l false) (ob (cE n c (cf.mu.contains x) e) fun v => some (.asg (.name i) v))
  | e => ob (ixOf c.N x) fun i => gate (locB c.sc x && storeB c x && swB c (.Name x px) e l false) (ob (cE n c (cf.mu.contains x) e) fun v => some (.asg (.name i) v))
def orD (x : Option St) : St := match x with
  | some s => s
  | none => .dead
def cS : Nat → Sc → Cfg → Stmt → St
  | 0, _, _, _ => .dead
  | n + 1, c, cf, s => match s with
    | .Assign [tg] e pos => orD (match tg with
      | .Name x px => cNm n c cf x px e pos.line
      | .Tuple ts kt pt => match ts, e with
        | [.Name x px, .Name y py], .Tuple [a, b] k2 pt2 => match stB c [.Tuple [.Name x px, .Name y py] kt pt] (.Tuple [a, b] k2 pt2) (some [x, y]) with
          | true => ob (ixOf c.N x) fun i => ob (ixOf c.N y) fun j => gate (decide (i ≠ j) && kindB c.sc x .local && kindB c.sc y .local) (ob (cE n c (cf.mu.contains x) a) fun v => ob (cE n c (cf.mu.contains y) b) fun w => some (.par [i, j] (.cons v (.cons w .nil))))
          | false => match cf.mu.contains x || cf.mu.contains y with
            | true => ob (ixOf c.N x) fun i => ob (ixOf c.N y) fun j => gate (locB c.sc x && storeB c x && (locB c.sc y && storeB c y) && (swB c (.Tuple [.Name x px, .Name y py] kt pt) (.Tuple [a, b] k2 pt2) pos.line false && stB c [.Tuple [.Name x px, .Name y py] kt pt] (.Tuple [a, b] k2 pt2) none))
                (ob (cE n c (cf.mu.contains x) a) fun v => ob (cE n c (cf.mu.contains y) b) fun w => some (.par [i, j] (.cons v (.cons w .nil))))
            | false => cAsg n c cf tg e pos.line
        | [.Name x px, .Name y py, .Name z pz], .Tuple [a, b, d] k2 pt2 => match stB c [.Tuple [.Name x px, .Name y py, .Name z pz] kt pt] (.Tuple [a, b, d] k2 pt2) (some [x, y, z]) with
          | true => ob (ixOf c.N x) fun i => ob (ixOf c.N y) fun j => ob (ixOf c.N z) fun l => gate (decide (i ≠ j) && decide (i ≠ l) && decide (j ≠ l) && kindB c.sc x .local && kindB c.sc y .local && kindB c.sc z .local)
              (ob (cE n c (cf.mu.contains x) a) fun v => ob (cE n c (cf.mu.contains y) b) fun w => ob (cE n c (cf.mu.contains z) d) fun u => some (.par [i, j, l] (.cons v (.cons w (.cons u .nil)))))
          | false => cAsg n c cf tg e pos.line
        | _, _ => cAsg n c cf tg e pos.line
      | tg => cAsg n c cf tg e pos.line)
    | .AugAssign tg op e _ => orD (gate (augOk op) (match tg with
      | .Name x _ => ob (ixOf c.N x) fun i => gate (locB c.sc x && storeB c x) (ob (cE n c false e) fun v => some (.aug i op v))
      | .Subscript o i _ => gate (notSlice i) (ob (cE n c false o) fun x => ob (cE n c false i) fun y => ob (cE n c false e) fun v => some (.augS x y op v))
      | _ => none))
    | .Expr e _ => match e with
      | .Constant (.str _) _ _ => .pass
      | e => orD (gate (notComp e) (ob (cE n c false e) fun v => some (.ex v)))
    | .Return o _ => match o with
      | some e => orD (ob (cE n c cf.rm e) fun v => some (.ret (!cf.rm) v))
      | none => .ret true (.con .none)
    | .If t a b _ => orD (ob (cE n c false t) fun v => some (.ifs v (cSs (cS n c cf) a) (cSs (cS n c cf) b)))
    | .For tg iter b els _ => match els with
      | [] => orD (gate (notSet iter) (ob (cI c (cE n c false) tg iter) fun it => ob (cT c (cE n c false) 5 tg) fun t => some (.for_ t it (cSs (cS n c cf) b))))
      | _ => .dead
    | .While t b els _ => match els with
      | [] => orD (ob (cE n c false t) fun v => some (.whl v (cSs (cS n c cf) b)))
      | _ => .dead
    | .Pass _ => .pass
    | .Break _ => .brk
    | .Continue _ => .cont
    | _ => .dead
section
variable {c : Sc} {cf : Cfg}
theorem orD_ok {x : Option St} {s : Stmt} (h : ∀ v, x = some v → CS c s v) : CS c s (orD x) := by
  cases x with
  | some v => exact h v rfl
  | none => exact .dead
theorem cSs_ok {f : Stmt → St} (h : ∀ s, CS c s (f s)) : ∀ ss, CSs c ss (cSs f ss)
  | [] => .nil
  | s :: ss => .cons (h s) (cSs_ok h ss)
theorem cAsg_ok {n : Nat} {tg e : Expr} {pos : Pos} {v : St} (h : cAsg n c cf tg e pos.line = some v) : CS c (.Assign [tg] e pos) v := by
  unfold cAsg at h
  obtain ⟨t, e1, h⟩ := ob_some h
  obtain ⟨u, e2, h⟩ := ob_some h
  obtain ⟨g, h⟩ := gate_some h
  cases h
  obtain ⟨g1, g2⟩ := Bool.and_eq_true_iff.mp g
  exact .asg (cT_ok (fun e x h => cE_ok _ _ _ _ _ h) _ _ _ e1) (cE_ok _ _ _ _ _ e2) (swB_ok g1) (stB_ok g2)
theorem cNm_ok {n : Nat} {x : Str} {px pos : Pos} {e : Expr} {v : St} (h : cNm n c cf x px e pos.line = some v) : CS c (.Assign [.Name x px] e pos) v := by
  have IH : ∀ (c : Sc) (m : Bool) (e : Expr) (x : Ex), cE n c m e = some x → CE c m e x := fun c m e x h => cE_ok n c m e x h
  have plain : ∀ {e : Expr} {v : St}, (ob (ixOf c.N x) fun i => gate (locB c.sc x && storeB c x && swB c (.Name x px) e pos.line false) (ob (cE n c (cf.mu.contains x) e) fun v => some (St.asg (.name i) v))) = some v → CS c (.Assign [.Name x px] e pos) v := fun h => by
    obtain ⟨i, e1, h⟩ := ob_some h
    obtain ⟨g, h⟩ := gate_some h
    obtain ⟨u, e2, h⟩ := ob_some h
    cases h
    obtain ⟨g, g3⟩ := Bool.and_eq_true_iff.mp g
    obtain ⟨g1, g2⟩ := Bool.and_eq_true_iff.mp g
    exact .set (ixOf_ok e1) (locB_ok g1) (storeB_ok g2) (IH _ _ _ _ e2) (swB_ok g3)
  unfold cNm at h
  split at h
  · split at h
    · rename_i hsw
      obtain ⟨i, e1, h⟩ := ob_some h
      obtain ⟨g, h⟩ := gate_some h
      obtain ⟨it, e2, h⟩ := ob_some h
      obtain ⟨t, e3, h⟩ := ob_some h
      obtain ⟨gw, h⟩ := gate_some h
      obtain ⟨fs, e4, h⟩ := ob_some h
      obtain ⟨u, e5, h⟩ := ob_some h
      cases h
      obtain ⟨g, g3⟩ := Bool.and_eq_true_iff.mp g
      obtain ⟨g1, g2⟩ := Bool.and_eq_true_iff.mp g
      exact .setLc (ixOf_ok e1) (kindB_ok g1) (swB_ok hsw) (blkB_ok g2) (cI_ok (IH c _) e2) (cT_ok (IH _ _) _ _ _ e3) gw (cF_ok (IH _ _) e4) (IH _ _ _ _ e5) g3
    · exact plain h
  · exact plain h
theorem cS_ok : ∀ (n : Nat) (c : Sc) (cf : Cfg) (s : Stmt), CS c s (cS n c cf s)
  | 0, _, _, _ => .dead
  | n + 1, c, cf, s => by
    have IE : ∀ (c : Sc) (m : Bool) (e : Expr) (x : Ex), cE n c m e = some x → CE c m e x := fun c m e x h => cE_ok n c m e x h
    have IS : ∀ s, CS c s (cS n c cf s) := fun s => cS_ok n c cf s
    unfold cS
    split
    · refine orD_ok fun v h => ?_
      split at h
      · exact cNm_ok h
      · split at h
        · split at h
          · rename_i hst
            obtain ⟨i, e1, h⟩ := ob_some h
            obtain ⟨j, e2, h⟩ := ob_some h
            obtain ⟨g, h⟩ := gate_some h
            obtain ⟨u, e3, h⟩ := ob_some h
            obtain ⟨w, e4, h⟩ := ob_some h
            cases h
            obtain ⟨g, g3⟩ := Bool.and_eq_true_iff.mp g
            obtain ⟨g1, g2⟩ := Bool.and_eq_true_iff.mp g
            exact .par (ixOf_ok e1) (ixOf_ok e2) (of_decide_eq_true g1) (kindB_ok g2) (kindB_ok g3) (IE _ _ _ _ e3) (IE _ _ _ _ e4) (stB_ok hst)
          · split at h
            · obtain ⟨i, e1, h⟩ := ob_some h
              obtain ⟨j, e2, h⟩ := ob_some h
              obtain ⟨g, h⟩ := gate_some h
              obtain ⟨u, e3, h⟩ := ob_some h
              obtain ⟨w, e4, h⟩ := ob_some h
              cases h
              simp only [Bool.and_eq_true] at g
              obtain ⟨⟨⟨g1, g2⟩, g3, g4⟩, g5, g6⟩ := g
              exact .parC (.name (ixOf_ok e1) (locB_ok g1) (storeB_ok g2)) (.name (ixOf_ok e2) (locB_ok g3) (storeB_ok g4)) (IE _ _ _ _ e3) (IE _ _ _ _ e4) (swB_ok g5) (stB_ok g6)
            · exact cAsg_ok h
        · split at h
          · rename_i hst
            obtain ⟨i, e1, h⟩ := ob_some h
            obtain ⟨j, e2, h⟩ := ob_some h
            obtain ⟨l, e3, h⟩ := ob_some h
            obtain ⟨g, h⟩ := gate_some h
            obtain ⟨u, e4, h⟩ := ob_some h
            obtain ⟨w, e5, h⟩ := ob_some h
            obtain ⟨w2, e6, h⟩ := ob_some h
            cases h
            simp only [Bool.and_eq_true] at g
            obtain ⟨⟨⟨⟨⟨g1, g2⟩, g3⟩, g4⟩, g5⟩, g6⟩ := g
            exact .par3 (ixOf_ok e1) (ixOf_ok e2) (ixOf_ok e3) (of_decide_eq_true g1) (of_decide_eq_true g2) (of_decide_eq_true g3) (kindB_ok g4) (kindB_ok g5) (kindB_ok g6) (IE _ _ _ _ e4) (IE _ _ _ _ e5) (IE _ _ _ _ e6) (stB_ok hst)
          · exact cAsg_ok h
        · exact cAsg_ok h
      · exact cAsg_ok h
    · refine orD_ok fun v h => ?_
      obtain ⟨ho, h⟩ := gate_some h
      split at h
      · obtain ⟨i, e1, h⟩ := ob_some h
        obtain ⟨g, h⟩ := gate_some h
        obtain ⟨u, e2, h⟩ := ob_some h
        cases h
        obtain ⟨g1, g2⟩ := Bool.and_eq_true_iff.mp g
        exact .aug (ixOf_ok e1) (locB_ok g1) (storeB_ok g2) (IE _ _ _ _ e2) ho
      · obtain ⟨g, h⟩ := gate_some h
        obtain ⟨x, e1, h⟩ := ob_some h
        obtain ⟨y, e2, h⟩ := ob_some h
        obtain ⟨u, e3, h⟩ := ob_some h
        cases h
        exact .augS (IE _ _ _ _ e1) (IE _ _ _ _ e2) (IE _ _ _ _ e3) ho g
      · cases h
    · split
      · exact .doc
      · refine orD_ok fun v h => ?_
        obtain ⟨g, h⟩ := gate_some h
        obtain ⟨x, e1, h⟩ := ob_some h
        cases h
        exact .ex (IE _ _ _ _ e1) g
    · split
      · refine orD_ok fun v h => ?_
        obtain ⟨x, e1, h⟩ := ob_some h
        cases h
        exact .ret (IE _ _ _ _ e1)
      · exact .retN
    · refine orD_ok fun v h => ?_
      obtain ⟨x, e1, h⟩ := ob_some h
      cases h
      exact .ifs (IE _ _ _ _ e1) (cSs_ok IS _) (cSs_ok IS _)
    · split
      · refine orD_ok fun v h => ?_
        obtain ⟨g, h⟩ := gate_some h
        obtain ⟨it, e1, h⟩ := ob_some h
        obtain ⟨t, e2, h⟩ := ob_some h
        cases h
        exact .for_ (cI_ok (IE _ _) e1) (cT_ok (IE _ _) _ _ _ e2) (cSs_ok IS _) g
      · exact .dead
    · split
      · refine orD_ok fun v h => ?_
        obtain ⟨x, e1, h⟩ := ob_some h
        cases h
        exact .whl (IE _ _ _ _ e1) (cSs_ok IS _)
      · exact .dead
    · exact .pass
    · exact .brk
    · exact .cont
    · exact .dead
end

/-! ### the table -/
structure Fi where
  x : Str
  N : List Str
  ps : List Str
  cf : Cfg
def mkSc (c0 : Sc) (fi : Fi) (dd : He.DefD) : Sc := { c0 with N := fi.N, sc := dd.scope, fn := fun _ => true }
def mkFd (c0 : Sc) (fi : Fi) (dd : He.DefD) : Fd := ⟨fi.ps.length, fi.N.length, cSs (cS 200 (mkSc c0 fi dd) fi.cf) dd.body⟩
def mkT (c0 : Sc) (fis : List Fi) (fn : List He.DefD) : Tab := List.zipWith (mkFd c0) fis fn
def scB (N ps : List Str) (sc : Scope) : Bool := decide (sc.kind = .function ∧ sc.isCoroutine = false ∧ sc.isGenerator = false ∧ N.Nodup ∧ N.take ps.length = ps ∧ (∀ x ∈ ps, sc.names.lookup x = some .local ∨ sc.names.lookup x = some .cell) ∧ ∀ y ∈ sc.names, y.2 ≠ .free)
theorem scB_ok {N ps : List Str} {sc : Scope} (h : scB N ps sc = true) : FnScope N ps sc := by
  obtain ⟨a, b, c, d, e, f, g⟩ := of_decide_eq_true h
  exact ⟨a, b, c, d, e, f, g⟩
def okT (fis : List Fi) (fn : List He.DefD) : Bool := decide (fis.length = fn.length) && (fis.zip fn).all fun p => decide (p.2.at_ = (p.1.x, none)) && scB p.1.N p.1.ps p.2.scope
def BndL (K : PySem.W.Frag) (c0 : Sc) : Nat → List Fi → List He.DefD → Prop
  | n, fi :: fis, dd :: fn => (∀ (f : Addr) (fd : FuncData), FunD K dd.name dd.qual dd.params dd.body dd.scope (dd.dvs K) (dd.kws K) f fd → Bnd K c0 n fd fi.ps) ∧ BndL K c0 (n + 1) fis fn
  | _, _, _ => True
theorem BndL.get {K : PySem.W.Frag} {c0 : Sc} : ∀ {n : Nat} {fis : List Fi} {fn : List He.DefD} {i : Nat} {fi : Fi} {dd : He.DefD}, BndL K c0 n fis fn → fis[i]? = some fi → fn[i]? = some dd →
    ∀ (f : Addr) (fd : FuncData), FunD K dd.name dd.qual dd.params dd.body dd.scope (dd.dvs K) (dd.kws K) f fd → Bnd K c0 (n + i) fd fi.ps
  | n, f0 :: fis, d0 :: fn, 0, fi, dd, h, h1, h2 => by
    cases h1
    cases h2
    exact h.1
  | n, f0 :: fis, d0 :: fn, i + 1, fi, dd, h, h1, h2 => by
    have z := BndL.get (n := n + 1) h.2 (i := i) (fi := fi) (dd := dd) (by simpa using h1) (by simpa using h2)
    rw [show n + (i + 1) = n + 1 + i by omega]
    exact z
  | n, [], fn, i, fi, dd, h, h1, h2 => by simp at h1
  | n, f0 :: fis, [], i, fi, dd, h, h1, h2 => by simp at h2
theorem Dfs.mk {P : Program} {w : World} {K : PySem.W.Frag} {mg : Str → Option Value} {base h : Heap} {c0 : Sc} {fis : List Fi} {fn : List He.DefD} {fa : List He.Fa} (X : K.In h) (G : h.Ns mainGlobals mg) (c : He.SaysD fa fn K)
    (hfs : c0.fs = fis.map (·.x)) (hfa : ∃ r, fa = fis.map (fun fi => He.Fa.glo fi.x) ++ r) (ok : okT fis fn = true) (hb : BndL K c0 0 fis fn) : Dfs ⟨P, w, K, mg, base⟩ c0 (mkT c0 fis fn) := by
  intro i x hx
  rw [hfs, List.getElem?_map] at hx
  cases e1 : fis[i]? with
  | none => rw [e1] at hx; cases hx
  | some fi =>
    rw [e1] at hx
    cases hx
    obtain ⟨ok1, ok2⟩ := Bool.and_eq_true_iff.mp ok
    have hlen := of_decide_eq_true ok1
    have hi : i < fis.length := (List.getElem?_eq_some_iff.mp e1).1
    obtain ⟨dd, e2⟩ : ∃ dd, fn[i]? = some dd := ⟨_, List.getElem?_eq_getElem (by omega)⟩
    have hm : (fi, dd) ∈ fis.zip fn := by
      refine List.mem_of_getElem? (i := i) ?_
      rw [List.getElem?_zip_eq_some]
      exact ⟨e1, e2⟩
    obtain ⟨a1, a2⟩ := Bool.and_eq_true_iff.mp (List.all_eq_true.mp ok2 _ hm)
    have ha := of_decide_eq_true a1
    obtain ⟨fd, FD⟩ := c.def_ i e2
    have ha : dd.at_ = (fi.x, none) := ha
    rw [ha] at FD
    have FD : FunD K dd.name dd.qual dd.params dd.body dd.scope (dd.dvs K) (dd.kws K) (He.ga K fi.x) fd := FD
    obtain ⟨r, rfl⟩ := hfa
    have g := He.glo_ok X G (c.fact i (f := .glo fi.x) (by
      rw [List.getElem?_append_left (by simpa using hi), List.getElem?_map, e1]
      rfl))
    refine ⟨mkFd c0 fi dd, _, fd, fi.ps, ?_, ⟨g, ⟨_, _, _, _, _, _, _, fi.N, FD, scB_ok a2, cSs_ok (cS_ok 200 _ _) _, rfl⟩, rfl⟩, FD.kp, ?_⟩
    · unfold mkT
      rw [List.getElem?_zipWith, e1, e2]
    · have z := hb.get e1 e2 _ _ FD
      rw [Nat.zero_add] at z
      exact z

/-! ### the forms of calls -/
theorem Bnd.of {K : PySem.W.Frag} {c0 : Sc} {i : Nat} {fd : FuncData} {ps : List Str} {l : List (Nat × Nat × List Str × List Nat)} (e : c0.pt.filter (fun p => p.1 == i) = l)
    (h : ∀ p ∈ l, ∀ (s : Shared) (us ws : List Value), K.In s.heap → us.length = p.2.1 → ws.length = p.2.2.1.length → BindsTo s fd ⟨us, p.2.2.1.zip ws⟩ (ps.zip (us ++ p.2.2.2.filterMap fun j => ws[j]?))) : Bnd K c0 i fd ps := fun n ks perm hm s us ws X h1 h2 => by
  refine h (i, n, ks, perm) ?_ s us ws X h1 h2
  rw [← e]
  exact List.mem_filter.mpr ⟨hm, by simp⟩
theorem bnd_one {K : PySem.W.Frag} {x qual : Str} {params : Arguments} {body : List Stmt} {scope : Scope} {kws : List (Str × V)} {f : Addr} {fd : FuncData} {ps ks : List Str} {perm : List Nat} {n : Nat} (F : FunD K x qual params body scope [] kws f fd)
    (h : ∀ (kV doc pm : Value) (an : Option Addr) (cdv ct : Value) (us ws : List Value), us.length = n → ws.length = ks.length → bindArgs (PySem.W.fnOf x qual params body scope .none kV doc pm an cdv ct) ⟨us, ks.zip ws⟩ = pure (ps.zip (us ++ perm.filterMap fun j => ws[j]?)))
    (s : Shared) (us ws : List Value) (X : K.In s.heap) (h1 : us.length = n) (h2 : ws.length = ks.length) : BindsTo s fd ⟨us, ks.zip ws⟩ (ps.zip (us ++ perm.filterMap fun j => ws[j]?)) := by
  obtain ⟨oc, od, dV, kV, doc, pm, an, cdv, ct, osl, rfl, lk, hcd, hD, hK⟩ := F.ex
  rcases hD with ⟨_, rfl⟩ | ⟨e, _⟩
  · exact .of_eq (h kV doc pm an cdv ct us ws h1 h2)
  · exact absurd rfl e

/-! ### the module's constants -/
def kvs (f : D → Value → Bool) : List D → List Value → Bool
  | [], [] => true
  | d :: ds, v :: vs => f d v && kvs f ds vs
  | _, _ => false
def kvB (K : PySem.W.Frag) : Nat → D → Value → Bool
  | 0, _, _ => false
  | n + 1, d, v => match d, v with
    | .none, .none => true
    | .bool a, .bool b => decide (a = b)
    | .int i, .int j _ => decide (i = j)
    | .str x, .str y _ => decide (x = y)
    | .tuple ds, .ref a => match K.lookup a with
      | some ⟨.type c, _, .seq its _, _⟩ => decide (c = "tuple") && decide (its.size ≤ sizeLine) && kvs (kvB K n) ds its.toList
      | _ => false
    | _, _ => false
theorem kvs_ok {K : PySem.W.Frag} {f : D → Value → Bool} (h : ∀ d v, f d v = true → ∃ x, RelV x v ∧ ∀ H, Rp K H x d) : ∀ {ds : List D} {vs : List Value}, kvs f ds vs = true → ∃ xs, Vals xs vs ∧ ∀ H, RpAll K H xs ds
  | [], [], _ => ⟨[], .nil, fun _ => .nil⟩
  | d :: ds, v :: vs, e => by
    unfold kvs at e
    obtain ⟨e1, e2⟩ := Bool.and_eq_true_iff.mp e
    obtain ⟨x, r, p⟩ := h d v e1
    obtain ⟨xs, rs, ps⟩ := kvs_ok h e2
    exact ⟨x :: xs, .cons r rs, fun H => .cons (p H) (ps H)⟩
  | [], _ :: _, e => by cases e
  | _ :: _, [], e => by cases e
theorem kvB_ok {K : PySem.W.Frag} : ∀ (n : Nat) (d : D) (v : Value), kvB K n d v = true → ∃ x, RelV x v ∧ ∀ H, Rp K H x d
  | 0, _, _, h => by cases h
  | n + 1, d, v, h => by
    unfold kvB at h
    split at h
    · exact ⟨.non, rfl, fun _ => .non⟩
    · cases of_decide_eq_true h
      exact ⟨.bl _, rfl, fun _ => .bl _⟩
    · cases of_decide_eq_true h
      exact ⟨.int _, ⟨_, rfl⟩, fun _ => .int _⟩
    · cases of_decide_eq_true h
      exact ⟨.str _, ⟨_, rfl⟩, fun _ => .str _⟩
    · rename_i ds a
      split at h
      · rename_i c od its m sl hl
        obtain ⟨h, h3⟩ := Bool.and_eq_true_iff.mp h
        obtain ⟨h1, h2⟩ := Bool.and_eq_true_iff.mp h
        cases of_decide_eq_true h1
        obtain ⟨xs, r, p⟩ := kvs_ok (kvB_ok n) h3
        exact ⟨.ref a, rfl, fun H => .tup (.inr ⟨_, its, m, hl, rfl, rfl, of_decide_eq_true h2, r⟩) (p H)⟩
      · cases h
    · cases h
def isBt : Value → Bool
  | .builtin _ => true
  | _ => false
def exK (cs : List (Str × D)) (ms : List (Str × Bf)) (K : PySem.W.Frag) : Bool :=
  (cs.all fun p => match PySem.W.nsIn K mainGlobals p.1 with
    | some (some v) => kvB K 8 p.2 v
    | _ => false) && ms.all fun p => isBt (bfV p.2) && He.eqO (PySem.W.nsIn K mainGlobals p.1) (some (some (bfV p.2)))
def blNames : List Str := ["len", "all", "any", "tuple", "list", "abs", "min", "max", "int", "repr", "sum", "divmod", "bool", "isinstance", "str", "range", "enumerate", "zip", "reversed"].map Str.ofString
theorem lookup_in {α : Type} : ∀ {l : List (Str × α)} {x : Str} {a : α}, l.lookup x = some a → (x, a) ∈ l
  | [], _, _, h => by cases h
  | (y, b) :: r, x, a, h => by
    rw [List.lookup_cons] at h
    split at h
    · rename_i e
      cases h
      rw [beq_iff_eq.mp e]
      exact List.mem_cons_self
    · exact List.mem_cons_of_mem _ (lookup_in h)
theorem GlOk.mk2 {P : Program} {w : World} {K : PySem.W.Frag} {mg : Str → Option Value} {base h : Heap} {c0 : Sc} {fn : List He.DefD} {fa : List He.Fa} (X : K.In h) (G : h.Ns mainGlobals mg) (c : He.SaysD fa fn K) (hx : exK c0.cs c0.ms K = true)
    (hfa : ∃ p r, fa = p ++ (blNames.map He.Fa.free ++ r)) : GlOk ⟨P, w, K, mg, base⟩ c0 := by
  obtain ⟨h1, h2⟩ := Bool.and_eq_true_iff.mp hx
  refine ⟨fun x d e => ?_, fun x f e => ?_, fun x e => ?_⟩
  · have z := List.all_eq_true.mp h1 _ (lookup_in e)
    simp only at z
    split at z
    · rename_i v hv
      obtain ⟨y, r, p⟩ := kvB_ok _ _ _ z
      exact ⟨v, y, PySem.W.mg_of X G hv, r, p _⟩
    · cases z
  · have z := List.all_eq_true.mp h2 _ (lookup_in e)
    obtain ⟨z1, z2⟩ := Bool.and_eq_true_iff.mp z
    refine ⟨PySem.W.mg_of X G (He.eqO_ok z2), ?_⟩
    cases q : bfV f with
    | builtin id => exact ⟨id, rfl⟩
    | _ => simp only [q] at z1; cases z1
  · obtain ⟨p, r, rfl⟩ := hfa
    have hm : He.Fa.free x ∈ p ++ (blNames.map He.Fa.free ++ r) := List.mem_append_right _ (List.mem_append_left _ (List.mem_map.mpr ⟨x, e, rfl⟩))
    obtain ⟨i, hi⟩ := List.getElem?_of_mem hm
    exact He.free_ok X G (c.fact i hi)

/-! ### the head's hook -/
abbrev AlE : Type := Bool × He.AlD
def hookE (n : Nat) (fa : List He.Fa) (fn : List He.DefD) (cs : List (Str × D)) (ms : List (Str × Bf)) : PySem.W.Hook where
  α := AlE
  obs := fun s => (exK cs ms (He.frG s.heap.get? (He.asD s.heap.get? n)), He.obsDG n fa fn s.heap.get?)
  val := fun _ => (true, He.valD fn)
  says := fun _ h => ∃ K : PySem.W.Frag, K.In h ∧ He.SaysD fa fn K ∧ exK cs ms K = true
  of := fun _ _ e => ⟨_, He.frG_in, congrArg Prod.snd e, congrArg Prod.fst e⟩
  keeps := fun _ _ _ ⟨K, hK, c, x⟩ k => ⟨K, PySem.W.Frag.In.keeps hK k, c, x⟩
def obE (n : Nat) (fa : List He.Fa) (fn : List He.DefD) (cs : List (Str × D)) (ms : List (Str × Bf)) (s : PySem.W.SharedT) : AlE := (exK cs ms (He.frG (HandSHeadRun.getT s) (He.asD (HandSHeadRun.getT s) n)), He.obsDG n fa fn (HandSHeadRun.getT s))
theorem obE_eq (n : Nat) (fa : List He.Fa) (fn : List He.DefD) (cs : List (Str × D)) (ms : List (Str × Bf)) (s : PySem.W.SharedT) : obE n fa fn cs ms s = (hookE n fa fn cs ms).obs s.abs := by
  have e : HandSHeadRun.getT s = s.abs.heap.get? := funext (HandSHeadRun.getT_eq s)
  unfold obE
  rw [e]
  rfl

/-! ### the end -/
theorem walk_ev {l : PySem.W.OpenLaw} {n : Nat} {q : Program} {loose : List Str} {XP : (Str → Option Value) → Heap → Prop} {d : DefRec} {N : Nat} {fa : List He.Fa} {fn : List He.DefD} {c0 : Sc} {fis : List Fi} {i k : Nat}
    (hn : l.most = some n) (hn2 : n ≤ sizeLine) (hdf : d.params.defaults = []) (hr : Room (k + 1) callerA) (hfs : c0.fs = fis.map (·.x)) (hfa : ∃ r, fa = fis.map (fun fi => He.Fa.glo fi.x) ++ (blNames.map He.Fa.free ++ r)) (ok : okT fis fn = true)
    (hb : ∀ K : PySem.W.Frag, BndL K c0 0 fis fn) (hx : c0.fs[i]? = some d.name) (hpt : (i, 1, [], []) ∈ c0.pt)
    (hlaw : ∀ ns : List Int, ns.length ≤ n → (∀ z ∈ ns, Builtin.Int.intBits z ≤ 1048576) → ∃ S', call (mkT c0 fis fn) (k + 1) i [.k (ns.map PyData.int)] [] = .ok (.d (.bool true)) S') :
    PySem.W.WalkO q loose XP (hookE N fa fn c0.cs c0.ms).says l.row.toRowW d [] (fun f vs => PySem.call f vs) := by
  refine Att.attach_callB hn hdf fun w s₀ s₁ mg mb fa2 o pm cd doc a vs ns G Y ho hd hcd hmg hobj hints hlen hbits hg => ?_
  obtain ⟨K, KX, c, xk⟩ := Y
  have hl := hlaw ns hlen hbits
  obtain ⟨r, hfa⟩ := hfa
  have D0 : ∀ base : Heap, Dfs ⟨l.prog, w, K, mg, base⟩ c0 (mkT c0 fis fn) := fun base => Dfs.mk KX G.T.g c hfs ⟨_, hfa⟩ ok (hb K)
  obtain ⟨dd, _, _, _, hT, _⟩ := D0 s₁.heap i _ hx
  exact law_run KX G.T.g G.T.b G.T.builtins G.T.nolimit hg hobj hints (Nat.le_trans hlen hn2) hr (fun base _ _ => GlOk.mk2 KX G.T.g c xk ⟨_, _, hfa⟩) (fun base _ _ => D0 base) hx hmg hpt hT hl
end Ev

/-! Ev11: reading the run: equations, bounds. -/
namespace Ev
open PySem L2

@[simp] theorem rb_ok {α β : Type} (a : α) (S : Sto) (f : α → Sto → Res β) : (Res.ok a S).bind f = f a S := (rfl)
@[simp] theorem rb_no {α β : Type} (f : α → Sto → Res β) : (Res.no : Res α).bind f = .no := (rfl)
theorem rb_ite {α β : Type} {c : Prop} [Decidable c] (x y : Res α) (f : α → Sto → Res β) : (if c then x else y).bind f = if c then x.bind f else y.bind f := by
  split <;> rfl
/-! ### the run as a machine: what comes behind is told by its text alone -/
section
variable (C : Calls) (env : Env)
def kVar (o : Option (Option U)) (S : Sto) : Res U := match o with
    | some (some u) => .ok u S
    | _ => .no
noncomputable def kBin (r : Res U) (m : Bool) (op : Operator) (b : Ex) : Res U := r.bind fun x S1 => (evE b C env S1).bind fun y S2 => binU m op x y S2
def kBin2 (r : Res U) (m : Bool) (op : Operator) (x : U) : Res U := r.bind fun y S2 => binU m op x y S2
def kNeg (r : Res U) : Res U := r.bind fun x S1 => match x with
    | .d (.int i) => .ok (.d (.int (-i))) S1
    | _ => .no
def kNot (r : Res U) : Res U := (r.bind tru).bind fun b S1 => .ok (.d (.bool (!b))) S1
def kNot2 (r : Res Bool) : Res U := r.bind fun b S1 => .ok (.d (.bool (!b))) S1
noncomputable def kAnd (r : Res U) (b : Ex) : Res U := r.bind fun x S1 => (tru x S1).bind fun t S2 => if t = true then evE b C env S2 else .ok x S2
noncomputable def kAnd2 (r : Res Bool) (x : U) (b : Ex) : Res U := r.bind fun t S2 => if t = true then evE b C env S2 else .ok x S2
noncomputable def kOr (r : Res U) (b : Ex) : Res U := r.bind fun x S1 => (tru x S1).bind fun t S2 => if t = true then .ok x S2 else evE b C env S2
noncomputable def kOr2 (r : Res Bool) (x : U) (b : Ex) : Res U := r.bind fun t S2 => if t = true then .ok x S2 else evE b C env S2
noncomputable def kCmp (r : Res U) (op : CmpOp) (b : Ex) : Res U := r.bind fun x S1 => (evE b C env S1).bind fun y S2 => match cmpU op x y S2 with
    | some t => .ok (.d (.bool t)) S2
    | none => .no
def kCmp2 (r : Res U) (op : CmpOp) (x : U) : Res U := r.bind fun y S2 => match cmpU op x y S2 with
    | some t => .ok (.d (.bool t)) S2
    | none => .no
def kCmp3 (t : Option Bool) (S : Sto) : Res U := match t with
    | some t => .ok (.d (.bool t)) S
    | none => .no
noncomputable def kC2 (r : Res U) (op op2 : CmpOp) (b c : Ex) : Res U := r.bind fun x S1 => (evE b C env S1).bind fun y S2 => match cmpU op x y S2 with
    | some true => (evE c C env S2).bind fun z S3 => match cmpU op2 y z S3 with
      | some t => .ok (.d (.bool t)) S3
      | none => .no
    | some false => .ok (.d (.bool false)) S2
    | none => .no
noncomputable def kC2b (r : Res U) (op op2 : CmpOp) (x : U) (c : Ex) : Res U := r.bind fun y S2 => match cmpU op x y S2 with
    | some true => (evE c C env S2).bind fun z S3 => match cmpU op2 y z S3 with
      | some t => .ok (.d (.bool t)) S3
      | none => .no
    | some false => .ok (.d (.bool false)) S2
    | none => .no
noncomputable def kC2c (t : Option Bool) (op2 : CmpOp) (y : U) (c : Ex) (S2 : Sto) : Res U := match t with
    | some true => (evE c C env S2).bind fun z S3 => match cmpU op2 y z S3 with
      | some t => .ok (.d (.bool t)) S3
      | none => .no
    | some false => .ok (.d (.bool false)) S2
    | none => .no
noncomputable def kIte (r : Res U) (a b : Ex) : Res U := (r.bind tru).bind fun t S1 => if t = true then evE a C env S1 else evE b C env S1
noncomputable def kIte2 (r : Res Bool) (a b : Ex) : Res U := r.bind fun t S1 => if t = true then evE a C env S1 else evE b C env S1
def kCall (r : Res (List U)) (f : Nat) : Res U := r.bind fun us S1 => C f us S1
noncomputable def kCk (r : Res (List U)) (f : Nat) (perm : List Nat) (ks : Exs) : Res U := r.bind fun us S1 => (evEs ks C env S1).bind fun vs S2 => C f (permU us perm vs) S2
def kCk2 (r : Res (List U)) (f : Nat) (us : List U) (perm : List Nat) : Res U := r.bind fun vs S2 => C f (permU us perm vs) S2
def kBlt (r : Res (List U)) (f : Bf) : Res U := r.bind fun us S1 => bltU f us S1
def kIsi (r : Res U) (t : Ty) : Res U := r.bind fun x S1 => match der S1 x with
    | some d => .ok (.d (.bool (isiD t d))) S1
    | none => .no
noncomputable def kIdx (r : Res U) (b : Ex) : Res U := r.bind fun x S1 => (evE b C env S1).bind fun y S2 => idxU x y S2
def kIdx2 (r : Res U) (x : U) : Res U := r.bind fun y S2 => idxU x y S2
noncomputable def kSl (r : Res U) (m : Bool) (lo hi : Eo) : Res U := r.bind fun x S1 => (evO lo C env S1).bind fun l S2 => (evO hi C env S2).bind fun h S3 => slU m x l h S3
noncomputable def kSl2 (r : Res (Option Int)) (m : Bool) (x : U) (hi : Eo) : Res U := r.bind fun l S2 => (evO hi C env S2).bind fun h S3 => slU m x l h S3
def kSl3 (r : Res (Option Int)) (m : Bool) (x : U) (l : Option Int) : Res U := r.bind fun h S3 => slU m x l h S3
def kTup (r : Res (List U)) : Res U := r.bind fun us S1 => (frzs us S1).bind fun ds S2 => if ds.length ≤ sizeLine then .ok (.d (.tuple ds)) S2 else .no
def kTup2 (r : Res (List D)) : Res U := r.bind fun ds S2 => if ds.length ≤ sizeLine then .ok (.d (.tuple ds)) S2 else .no
def kLst (r : Res (List U)) (m : Bool) : Res U := r.bind fun us S1 => (frzs us S1).bind fun ds S2 => if ds.length ≤ sizeLine then mkL m ds S2 else .no
def kLst2 (r : Res (List D)) (m : Bool) : Res U := r.bind fun ds S2 => if ds.length ≤ sizeLine then mkL m ds S2 else .no
def kFz (r : Res D) (us : List U) : Res (List D) := r.bind fun d S1 => (frzs us S1).bind fun ds S2 => .ok (d :: ds) S2
def kFz2 (r : Res (List D)) (d : D) : Res (List D) := r.bind fun ds S2 => .ok (d :: ds) S2
noncomputable def compE (own : List Nat) (tg : Tg) (ifs : Exs) (elt : Ex) (ls : List (Nat × List D)) (xs : List D) (S : Sto) : Res (List D) :=
  compL (fun x S2 => (asgT tg C (.d x) (wipeE env own) S2).bind fun e2 S3 => (evIfs ifs C e2 S3).bind fun t S4 => if t = true then (evE elt C e2 S4).bind fun u S5 => (frz u S5).bind fun d S6 => .ok (some d) S6 else .ok none S4) ls xs S
noncomputable def kComp (r : Res Src) (m : Bool) (own : List Nat) (tg : Tg) (ifs : Exs) (elt : Ex) : Res U := r.bind fun src S1 => if src.1.length < sizeLine then (compE C env own tg ifs elt src.2 src.1 S1).bind fun ds S2 => mkL m ds S2 else .no
def kComp2 (r : Res (List D)) (m : Bool) : Res U := r.bind fun ds S2 => mkL m ds S2
noncomputable def kCs (r : Res Env) (own : List Nat) (tg : Tg) (ifs : Exs) (elt : Ex) (xs : List D) : Res (List D) := r.bind fun e2 S3 => ((evIfs ifs C e2 S3).bind fun t S4 => if t = true then (evE elt C e2 S4).bind fun u S5 => (frz u S5).bind fun d S6 => .ok (some d) S6 else .ok none S4).bind fun o S1 => (compE C env own tg ifs elt [] xs S1).bind fun ds S2 => .ok (match o with
      | some d => d :: ds
      | none => ds) S2
noncomputable def kCs2 (r : Res Bool) (e2 : Env) (own : List Nat) (tg : Tg) (ifs : Exs) (elt : Ex) (xs : List D) : Res (List D) := (r.bind fun t S4 => if t = true then (evE elt C e2 S4).bind fun u S5 => (frz u S5).bind fun d S6 => .ok (some d) S6 else .ok none S4).bind fun o S1 => (compE C env own tg ifs elt [] xs S1).bind fun ds S2 => .ok (match o with
      | some d => d :: ds
      | none => ds) S2
noncomputable def kCs3 (r : Res U) (own : List Nat) (tg : Tg) (ifs : Exs) (elt : Ex) (xs : List D) : Res (List D) := r.bind fun u S5 => (frz u S5).bind fun d S6 => (compE C env own tg ifs elt [] xs S6).bind fun ds S2 => .ok (d :: ds) S2
noncomputable def kCs4 (r : Res D) (own : List Nat) (tg : Tg) (ifs : Exs) (elt : Ex) (xs : List D) : Res (List D) := r.bind fun d S6 => (compE C env own tg ifs elt [] xs S6).bind fun ds S2 => .ok (d :: ds) S2
def kCs5 (r : Res (List D)) (d : D) : Res (List D) := r.bind fun ds S2 => .ok (d :: ds) S2
noncomputable def kMe (r : Res U) (f : Mt) (es : Exs) : Res U := r.bind fun x S1 => match seqD x S1 with
    | some _ => (evEs es C env S1).bind fun us S2 => methU f x us S2
    | none => .no
noncomputable def kMe1 (s : Option Src) (x : U) (f : Mt) (es : Exs) (S1 : Sto) : Res U := match s with
    | some _ => (evEs es C env S1).bind fun us S2 => methU f x us S2
    | none => .no
def kO1 (r : Res U) (f : O1) : Res U := r.bind fun x S1 => op1U f x S1
noncomputable def kO2 (r : Res U) (f : O2) (b : Ex) : Res U := r.bind fun x S1 => match seqL x S1 with
    | some _ => (evE b C env S1).bind fun y S2 => op2U f x y S2
    | none => .no
def kO2b (r : Res U) (f : O2) (x : U) : Res U := r.bind fun y S2 => op2U f x y S2
noncomputable def kDb1 (r : Res Src) (e2 : Env) (own1 : List Nat) (tg1 : Tg) (ifs1 : Exs) (elt : Ex) : Res (List D) := r.bind fun src1 S5 => compE C e2 own1 tg1 ifs1 elt src1.2 src1.1 S5
noncomputable def kDbI (r : Res Bool) (e2 : Env) (own1 : List Nat) (tg1 : Tg) (it1 : Itr) (ifs1 : Exs) (elt : Ex) : Res (List D) := r.bind fun t S4 => if t = true then kDb1 C (evI it1 C e2 S4) e2 own1 tg1 ifs1 elt else .ok [] S4
noncomputable def kDbT (r : Res Env) (ifs : Exs) (own1 : List Nat) (tg1 : Tg) (it1 : Itr) (ifs1 : Exs) (elt : Ex) : Res (List D) := r.bind fun e2 S3 => kDbI C (evIfs ifs C e2 S3) e2 own1 tg1 it1 ifs1 elt
noncomputable def dbl (own : List Nat) (tg : Tg) (ifs : Exs) (own1 : List Nat) (tg1 : Tg) (it1 : Itr) (ifs1 : Exs) (elt : Ex) (ls : List (Nat × List D)) (xs : List D) (S : Sto) : Res (List D) :=
  compLL (fun x S2 => kDbT C (asgT tg C (.d x) (wipeE env own) S2) ifs own1 tg1 it1 ifs1 elt) ls xs S
noncomputable def kDb (r : Res Src) (m : Bool) (own : List Nat) (tg : Tg) (ifs : Exs) (own1 : List Nat) (tg1 : Tg) (it1 : Itr) (ifs1 : Exs) (elt : Ex) : Res U := r.bind fun src S1 => (dbl C env own tg ifs own1 tg1 it1 ifs1 elt src.2 src.1 S1).bind fun ds S2 => if ds.length ≤ sizeLine then mkL m ds S2 else .no
def kDb2 (r : Res (List D)) (m : Bool) : Res U := r.bind fun ds S2 => if ds.length ≤ sizeLine then mkL m ds S2 else .no
noncomputable def kDbN (r : Res (List D)) (own : List Nat) (tg : Tg) (ifs : Exs) (own1 : List Nat) (tg1 : Tg) (it1 : Itr) (ifs1 : Exs) (elt : Ex) (xs : List D) : Res (List D) := r.bind fun ds S1 => (dbl C env own tg ifs own1 tg1 it1 ifs1 elt [] xs S1).bind fun es S2 => .ok (ds ++ es) S2
def kDbM (r : Res (List D)) (ds : List D) : Res (List D) := r.bind fun es S2 => .ok (ds ++ es) S2
def kMe2 (r : Res (List U)) (f : Mt) (x : U) : Res U := r.bind fun us S2 => methU f x us S2
noncomputable def kEs (r : Res U) (es : Exs) : Res (List U) := r.bind fun u S1 => (evEs es C env S1).bind fun us S2 => .ok (u :: us) S2
def kEs2 (r : Res (List U)) (u : U) : Res (List U) := r.bind fun us S2 => .ok (u :: us) S2
noncomputable def kIf (r : Res U) (es : Exs) : Res Bool := (r.bind tru).bind fun t S1 => if t = true then evIfs es C env S1 else .ok false S1
noncomputable def kIf2 (r : Res Bool) (es : Exs) : Res Bool := r.bind fun t S1 => if t = true then evIfs es C env S1 else .ok false S1
def kO (r : Res U) : Res (Option Int) := r.bind fun x S1 => match x with
    | .d (.int i) => .ok (some i) S1
    | _ => .no
def kI (r : Res U) : Res Src := r.bind fun x S1 => match seqD x S1 with
    | some s => .ok s S1
    | none => .no
def kR1 (r : Res U) : Res Src := r.bind fun x S1 => match x with
    | .d (.int j) => if -(2 ^ 62) ≤ j ∧ j < 2 ^ 62 then .ok (intsD 0 j.toNat, []) S1 else .no
    | _ => .no
noncomputable def kR2 (r : Res U) (b : Ex) : Res Src := r.bind fun x S1 => (evE b C env S1).bind fun y S2 => match x, y with
    | .d (.int i), .d (.int j) => if -(2 ^ 62) ≤ i ∧ i < 2 ^ 62 ∧ -(2 ^ 62) ≤ j ∧ j < 2 ^ 62 then .ok (intsD i (j - i).toNat, []) S2 else .no
    | _, _ => .no
def kR2b (r : Res U) (x : U) : Res Src := r.bind fun y S2 => match x, y with
    | .d (.int i), .d (.int j) => if -(2 ^ 62) ≤ i ∧ i < 2 ^ 62 ∧ -(2 ^ 62) ≤ j ∧ j < 2 ^ 62 then .ok (intsD i (j - i).toNat, []) S2 else .no
    | _, _ => .no
def kEn (r : Res U) : Res Src := r.bind fun x S1 => match seqD x S1 with
    | some s => .ok (enumD s.1, s.2) S1
    | none => .no
noncomputable def kZ3 (r : Res U) (b c : Ex) : Res Src := r.bind fun x S1 => (evE b C env S1).bind fun y S2 => (evE c C env S2).bind fun w S3 => match x, y, w with
    | .d (.tuple xs), .d (.tuple ys), .d (.tuple zs) => .ok (zip3D xs ys zs, []) S3
    | _, _, _ => .no
noncomputable def kZ3b (r : Res U) (x : U) (c : Ex) : Res Src := r.bind fun y S2 => (evE c C env S2).bind fun w S3 => match x, y, w with
    | .d (.tuple xs), .d (.tuple ys), .d (.tuple zs) => .ok (zip3D xs ys zs, []) S3
    | _, _, _ => .no
def kZ3c (r : Res U) (x y : U) : Res Src := r.bind fun w S3 => match x, y, w with
    | .d (.tuple xs), .d (.tuple ys), .d (.tuple zs) => .ok (zip3D xs ys zs, []) S3
    | _, _, _ => .no
noncomputable def kZi (r : Res U) (b : Ex) : Res Src := r.bind fun x S1 => (evE b C env S1).bind fun y S2 => match seqL x S2, seqL y S2 with
    | some s, some t => .ok (zipD s.1 t.1, s.2 ++ t.2) S2
    | _, _ => match x, y with
      | .d (.tuple xs), .d (.tuple ys) => .ok (zipD xs ys, []) S2
      | _, _ => .no
def kZi2 (r : Res U) (x : U) : Res Src := r.bind fun y S2 => match seqL x S2, seqL y S2 with
    | some s, some t => .ok (zipD s.1 t.1, s.2 ++ t.2) S2
    | _, _ => match x, y with
      | .d (.tuple xs), .d (.tuple ys) => .ok (zipD xs ys, []) S2
      | _, _ => .no
def kRv (r : Res U) : Res Src := r.bind fun x S1 => match seqD x S1 with
    | some s => .ok (s.1.reverse, s.2) S1
    | none => .no
noncomputable def kSb (r : Res U) (i : Ex) (u : U) : Res Env := r.bind fun x S1 => (evE i C env S1).bind fun y S2 => (setU x y u S2).bind fun _ S3 => .ok env S3
def kSb2 (r : Res U) (x u : U) : Res Env := r.bind fun y S2 => (setU x y u S2).bind fun _ S3 => .ok env S3
def kSb3 (r : Res Unit) : Res Env := r.bind fun _ S3 => .ok env S3
noncomputable def kTs (r : Res Env) (ts : Tgs) (ds : List D) : Res Env := r.bind fun e1 S1 => asgTs ts C ds e1 S1
noncomputable def kAs (r : Res U) (t : Tg) : Res Out := r.bind fun u S1 => (asgT t C u env S1).bind fun e2 S2 => .ok (.nx e2) S2
def kAs2 (r : Res Env) : Res Out := r.bind fun e2 S2 => .ok (.nx e2) S2
def kPar (r : Res (List U)) (is : List Nat) : Res Out := r.bind fun us S1 => if us.length = is.length then .ok (.nx (setAll env is us)) S1 else .no
def kAug (r : Res U) (u : U) (i : Nat) (op : Operator) : Res Out := r.bind fun v S1 => match u, v with
      | .d (.int a), .d (.int b) => match binD op (.int a) (.int b) with
        | some c => .ok (.nx (env.set i (some (.d c)))) S1
        | none => .no
      | _, _ => .no
noncomputable def kAu (o : Option (Option U)) (i : Nat) (op : Operator) (e : Ex) (S : Sto) : Res Out := match o with
    | some (some u) => kAug env (evE e C env S) u i op
    | _ => .no
def kAug2 (t : Option D) (i : Nat) (S1 : Sto) : Res Out := match t with
        | some c => .ok (.nx (env.set i (some (.d c)))) S1
        | none => .no
def kEx (r : Res U) : Res Out := r.bind fun _ S1 => .ok (.nx env) S1
def kRet (r : Res U) (f : Bool) : Res Out := r.bind fun u S1 => if f = true then (frz u S1).bind fun d S2 => .ok (.ret (.d d)) S2 else .ok (.ret u) S1
def kRet2 (r : Res D) : Res Out := r.bind fun d S2 => .ok (.ret (.d d)) S2
noncomputable def kIfs (r : Res U) (a b : Sts) : Res Out := (r.bind tru).bind fun t S1 => if t = true then exSs a C env S1 else exSs b C env S1
noncomputable def kIfs2 (r : Res Bool) (a b : Sts) : Res Out := r.bind fun t S1 => if t = true then exSs a C env S1 else exSs b C env S1
noncomputable def forE (t : Tg) (b : Sts) (ls : List (Nat × List D)) (xs : List D) (e : Env) (S : Sto) : Res Out := forL (fun x e S2 => (asgT t C (.d x) e S2).bind fun e2 S3 => exSs b C e2 S3) ls xs e S
noncomputable def kFor (r : Res Src) (t : Tg) (b : Sts) : Res Out := r.bind fun src S1 => forE C t b src.2 src.1 env S1
noncomputable def kFo (r : Res Env) (t : Tg) (b : Sts) (xs : List D) : Res Out := (r.bind fun e2 S3 => exSs b C e2 S3).bind fun o S1 => match o with
      | .nx e => forE C t b [] xs e S1
      | .ct e => forE C t b [] xs e S1
      | .bk e => .ok (.nx e) S1
      | .ret u => .ok (.ret u) S1
noncomputable def kFo2 (r : Res Out) (t : Tg) (b : Sts) (xs : List D) : Res Out := r.bind fun o S1 => match o with
      | .nx e => forE C t b [] xs e S1
      | .ct e => forE C t b [] xs e S1
      | .bk e => .ok (.nx e) S1
      | .ret u => .ok (.ret u) S1
noncomputable def whE (c : Ex) (b : Sts) (e : Env) (S : Sto) : Res Out := whL (fun e S1 => evT c C e S1) (fun e S1 => exSs b C e S1) e S
noncomputable def kSq (r : Res Out) (ss : Sts) : Res Out := r.bind fun o S1 => match o with
    | .nx e => exSs ss C e S1
    | o => .ok o S1
def kFin (r : Res Out) (n : Nat) : Res U := r.bind fun o S1 => fin n o S1
end
section
variable (C : Calls) (env : Env) (S : Sto)
theorem e_var (i : Nat) : evE (.var i) C env S = kVar env[i]? S := by rw [evE]; rfl
theorem k_var (u : U) : kVar (some (some u)) S = .ok u S := (rfl)
theorem e_con (d : D) : evE (.con d) C env S = .ok (.d d) S := by rw [evE]
theorem e_bin (m : Bool) (op : Operator) (a b : Ex) : evE (.bin m op a b) C env S = kBin C env (evE a C env S) m op b := by rw [evE]; rfl
theorem e_neg (a : Ex) : evE (.neg a) C env S = kNeg (evE a C env S) := by rw [evE]; rfl
theorem e_not (a : Ex) : evE (.not a) C env S = kNot (evE a C env S) := by rw [evE]; rfl
theorem e_and (a b : Ex) : evE (.and a b) C env S = kAnd C env (evE a C env S) b := by rw [evE]; rfl
theorem e_or (a b : Ex) : evE (.or a b) C env S = kOr C env (evE a C env S) b := by rw [evE]; rfl
theorem e_cmp (op : CmpOp) (a b : Ex) : evE (.cmp op a b) C env S = kCmp C env (evE a C env S) op b := by rw [evE]; rfl
theorem e_cmp2 (op op2 : CmpOp) (a b c : Ex) : evE (.cmp2 op op2 a b c) C env S = kC2 C env (evE a C env S) op op2 b c := by rw [evE]; rfl
theorem e_ite (c a b : Ex) : evE (.ite c a b) C env S = kIte C env (evE c C env S) a b := by rw [evE]; rfl
theorem e_call (f : Nat) (es : Exs) : evE (.call f es) C env S = kCall C (evEs es C env S) f := by rw [evE]; rfl
theorem e_callk (f : Nat) (es : Exs) (p : List Nat) (ks : Exs) : evE (.callk f es p ks) C env S = kCk C env (evEs es C env S) f p ks := by rw [evE]; rfl
theorem e_blt (f : Bf) (es : Exs) : evE (.blt f es) C env S = kBlt (evEs es C env S) f := by rw [evE]; rfl
theorem e_isi (a : Ex) (t : Ty) : evE (.isi a t) C env S = kIsi (evE a C env S) t := by rw [evE]; rfl
theorem e_idx (a b : Ex) : evE (.idx a b) C env S = kIdx C env (evE a C env S) b := by rw [evE]; rfl
theorem e_sl (m : Bool) (a : Ex) (lo hi : Eo) : evE (.sl m a lo hi) C env S = kSl C env (evE a C env S) m lo hi := by rw [evE]; rfl
theorem e_tup (es : Exs) : evE (.tup es) C env S = kTup (evEs es C env S) := by rw [evE]; rfl
theorem e_lst (m : Bool) (es : Exs) : evE (.lst m es) C env S = kLst (evEs es C env S) m := by rw [evE]; rfl
theorem e_comp (m : Bool) (own : List Nat) (tg : Tg) (it : Itr) (ifs : Exs) (elt : Ex) : evE (.comp m own tg it ifs elt) C env S = kComp C env (evI it C env S) m own tg ifs elt := by rw [evE]; rfl
theorem e_meth (f : Mt) (o : Ex) (es : Exs) : evE (.meth f o es) C env S = kMe C env (evE o C env S) f es := by rw [evE]; rfl
theorem e_op1 (f : O1) (a : Ex) : evE (.op1 f a) C env S = kO1 (evE a C env S) f := by rw [evE]; rfl
theorem e_op2 (f : O2) (a b : Ex) : evE (.op2 f a b) C env S = kO2 C env (evE a C env S) f b := by rw [evE]; rfl
theorem e_comp2 (m : Bool) (own : List Nat) (tg : Tg) (it : Itr) (ifs : Exs) (own1 : List Nat) (tg1 : Tg) (it1 : Itr) (ifs1 : Exs) (elt : Ex) : evE (.comp2 m own tg it ifs own1 tg1 it1 ifs1 elt) C env S = kDb C env (evI it C env S) m own tg ifs own1 tg1 it1 ifs1 elt := by rw [evE]; rfl
theorem k_o1 (i : Int) : kO1 (.ok (.d (.int i)) S) .bits = .ok (.d (.int (Builtin.Int.intBits i : Nat))) S := (rfl)
theorem k_o2 (xs : List D) (f : O2) (b : Ex) : kO2 C env (.ok (.d (.list xs)) S) f b = kO2b (evE b C env S) f (.d (.list xs)) := (rfl)
theorem k_o2b (x y : U) (f : O2) : kO2b (.ok y S) f x = op2U f x y S := (rfl)
theorem k_db (src : Src) (m : Bool) (own : List Nat) (tg : Tg) (ifs : Exs) (own1 : List Nat) (tg1 : Tg) (it1 : Itr) (ifs1 : Exs) (elt : Ex) : kDb C env (.ok src S) m own tg ifs own1 tg1 it1 ifs1 elt = kDb2 (dbl C env own tg ifs own1 tg1 it1 ifs1 elt src.2 src.1 S) m := (rfl)
theorem k_db2 (ds : List D) (m : Bool) : kDb2 (.ok ds S) m = if ds.length ≤ sizeLine then mkL m ds S else .no := (rfl)
theorem k_dbT (e2 : Env) (ifs : Exs) (own1 : List Nat) (tg1 : Tg) (it1 : Itr) (ifs1 : Exs) (elt : Ex) : kDbT C (.ok e2 S) ifs own1 tg1 it1 ifs1 elt = kDbI C (evIfs ifs C e2 S) e2 own1 tg1 it1 ifs1 elt := (rfl)
theorem k_dbI1 (e2 : Env) (own1 : List Nat) (tg1 : Tg) (it1 : Itr) (ifs1 : Exs) (elt : Ex) : kDbI C (.ok true S) e2 own1 tg1 it1 ifs1 elt = kDb1 C (evI it1 C e2 S) e2 own1 tg1 ifs1 elt := (rfl)
theorem k_dbI0 (e2 : Env) (own1 : List Nat) (tg1 : Tg) (it1 : Itr) (ifs1 : Exs) (elt : Ex) : kDbI C (.ok false S) e2 own1 tg1 it1 ifs1 elt = .ok [] S := (rfl)
theorem k_db1 (src : Src) (e2 : Env) (own1 : List Nat) (tg1 : Tg) (ifs1 : Exs) (elt : Ex) : kDb1 C (.ok src S) e2 own1 tg1 ifs1 elt = compE C e2 own1 tg1 ifs1 elt src.2 src.1 S := (rfl)
theorem k_dbN (ds : List D) (own : List Nat) (tg : Tg) (ifs : Exs) (own1 : List Nat) (tg1 : Tg) (it1 : Itr) (ifs1 : Exs) (elt : Ex) (xs : List D) : kDbN C env (.ok ds S) own tg ifs own1 tg1 it1 ifs1 elt xs = kDbM (dbl C env own tg ifs own1 tg1 it1 ifs1 elt [] xs S) ds := (rfl)
theorem k_dbM (ds es : List D) : kDbM (.ok es S) ds = .ok (ds ++ es) S := (rfl)
theorem es_nil : evEs .nil C env S = .ok [] S := by rw [evEs]
theorem es_cons (e : Ex) (es : Exs) : evEs (.cons e es) C env S = kEs C env (evE e C env S) es := by rw [evEs]; rfl
theorem if_nil : evIfs .nil C env S = .ok true S := by rw [evIfs]
theorem if_cons (e : Ex) (es : Exs) : evIfs (.cons e es) C env S = kIf C env (evE e C env S) es := by rw [evIfs]; rfl
theorem o_none : evO .none C env S = .ok none S := by rw [evO]
theorem o_some (e : Ex) : evO (.some e) C env S = kO (evE e C env S) := by rw [evO]; rfl
theorem i_ex (e : Ex) : evI (.ex e) C env S = kI (evE e C env S) := by rw [evI]; rfl
theorem i_r1 (e : Ex) : evI (.range1 e) C env S = kR1 (evE e C env S) := by rw [evI]; rfl
theorem i_r2 (e b : Ex) : evI (.range2 e b) C env S = kR2 C env (evE e C env S) b := by rw [evI]; rfl
theorem i_enum (e : Ex) : evI (.enum e) C env S = kEn (evE e C env S) := by rw [evI]; rfl
theorem i_zip (e b : Ex) : evI (.zip e b) C env S = kZi C env (evE e C env S) b := by rw [evI]; rfl
theorem i_rev (e : Ex) : evI (.rev e) C env S = kRv (evE e C env S) := by rw [evI]; rfl
theorem i_zip3 (e b c : Ex) : evI (.zip3 e b c) C env S = kZ3 C env (evE e C env S) b c := by rw [evI]; rfl
theorem k_z3 (x : U) (b c : Ex) : kZ3 C env (.ok x S) b c = kZ3b C env (evE b C env S) x c := (rfl)
theorem k_z3b (x y : U) (c : Ex) : kZ3b C env (.ok y S) x c = kZ3c (evE c C env S) x y := (rfl)
theorem k_z3c (xs ys zs : List D) : kZ3c (.ok (.d (.tuple zs)) S) (.d (.tuple xs)) (.d (.tuple ys)) = .ok (zip3D xs ys zs, []) S := (rfl)
theorem z3_cons (x y z : D) (xs ys zs : List D) : zip3D (x :: xs) (y :: ys) (z :: zs) = .tuple [x, y, z] :: zip3D xs ys zs := by rw [zip3D]
theorem z3_nil : zip3D [] [] [] = [] := by rw [zip3D]; simp
theorem k_enT (xs : List D) : kEn (.ok (.d (.tuple xs)) S) = .ok (enumD xs, []) S := (rfl)
theorem k_o1r (xs : List D) : kO1 (.ok (.d (.list xs)) S) .rev = .ok (.d (.list xs.reverse)) S := (rfl)
theorem k_enL (xs : List D) : kEn (.ok (.d (.list xs)) S) = .ok (enumD xs, []) S := (rfl)
theorem k_zi (x : U) (b : Ex) : kZi C env (.ok x S) b = kZi2 (evE b C env S) x := (rfl)
theorem k_ziL (xs ys : List D) : kZi2 (.ok (.d (.list ys)) S) (.d (.list xs)) = .ok (zipD xs ys, []) S := (rfl)
theorem k_ziT (xs ys : List D) : kZi2 (.ok (.d (.tuple ys)) S) (.d (.tuple xs)) = .ok (zipD xs ys, []) S := (rfl)
theorem k_rvL (xs : List D) : kRv (.ok (.d (.list xs)) S) = .ok (xs.reverse, []) S := (rfl)
theorem k_rvT (xs : List D) : kRv (.ok (.d (.tuple xs)) S) = .ok (xs.reverse, []) S := (rfl)
theorem g_name (i : Nat) (u : U) : asgT (.name i) C u env S = .ok (env.set i (some u)) S := by rw [asgT]
theorem g_sub (o i : Ex) (u : U) : asgT (.sub o i) C u env S = kSb C env (evE o C env S) i u := by rw [asgT]; rfl
theorem g_tup (ts : Tgs) (ds : List D) : asgT (.tup ts) C (.d (.tuple ds)) env S = asgTs ts C ds env S := by rw [asgT]
theorem g_tupL (ts : Tgs) (ds : List D) : asgT (.tup ts) C (.d (.list ds)) env S = asgTs ts C ds env S := by rw [asgT]
theorem gs_nil : asgTs .nil C [] env S = .ok env S := by rw [asgTs]
theorem gs_cons (t : Tg) (ts : Tgs) (d : D) (ds : List D) : asgTs (.cons t ts) C (d :: ds) env S = kTs C (asgT t C (.d d) env S) ts ds := by rw [asgTs]; rfl
theorem x_asg (t : Tg) (e : Ex) : exS (.asg t e) C env S = kAs C env (evE e C env S) t := by rw [exS]; rfl
theorem x_par (is : List Nat) (es : Exs) : exS (.par is es) C env S = kPar env (evEs es C env S) is := by rw [exS]; rfl
theorem x_aug (i : Nat) (op : Operator) (e : Ex) : exS (.aug i op e) C env S = kAu C env env[i]? i op e S := by rw [exS]; rfl
theorem k_au (i : Nat) (op : Operator) (e : Ex) (u : U) : kAu C env (some (some u)) i op e S = kAug env (evE e C env S) u i op := (rfl)
theorem x_ex (e : Ex) : exS (.ex e) C env S = kEx env (evE e C env S) := by rw [exS]; rfl
theorem x_ret (f : Bool) (e : Ex) : exS (.ret f e) C env S = kRet (evE e C env S) f := by rw [exS]; rfl
theorem x_ifs (c : Ex) (a b : Sts) : exS (.ifs c a b) C env S = kIfs C env (evE c C env S) a b := by rw [exS]; rfl
theorem x_for (t : Tg) (it : Itr) (b : Sts) : exS (.for_ t it b) C env S = kFor C env (evI it C env S) t b := by rw [exS]; rfl
theorem x_whl (c : Ex) (b : Sts) : exS (.whl c b) C env S = whE C c b env S := by rw [exS]; rfl
theorem x_pass : exS .pass C env S = .ok (.nx env) S := by rw [exS]
theorem x_brk : exS .brk C env S = .ok (.bk env) S := by rw [exS]
theorem x_cont : exS .cont C env S = .ok (.ct env) S := by rw [exS]
theorem xs_nil : exSs .nil C env S = .ok (.nx env) S := by rw [exSs]
theorem xs_cons (s : St) (ss : Sts) : exSs (.cons s ss) C env S = kSq C (exS s C env S) ss := by rw [exSs]; rfl
theorem k_bin (x : U) (m : Bool) (op : Operator) (b : Ex) : kBin C env (.ok x S) m op b = kBin2 (evE b C env S) m op x := (rfl)
theorem k_bin2 (x y : U) (m : Bool) (op : Operator) : kBin2 (.ok y S) m op x = binU m op x y S := (rfl)
theorem k_neg (i : Int) : kNeg (.ok (.d (.int i)) S) = .ok (.d (.int (-i))) S := (rfl)
theorem k_not (u : U) : kNot (.ok u S) = kNot2 (tru u S) := (rfl)
theorem k_not2 (b : Bool) : kNot2 (.ok b S) = .ok (.d (.bool (!b))) S := (rfl)
theorem k_and (x : U) (b : Ex) : kAnd C env (.ok x S) b = kAnd2 C env (tru x S) x b := (rfl)
theorem k_and1 (x : U) (b : Ex) : kAnd2 C env (.ok true S) x b = evE b C env S := (rfl)
theorem k_and0 (x : U) (b : Ex) : kAnd2 C env (.ok false S) x b = .ok x S := (rfl)
theorem k_or (x : U) (b : Ex) : kOr C env (.ok x S) b = kOr2 C env (tru x S) x b := (rfl)
theorem k_or1 (x : U) (b : Ex) : kOr2 C env (.ok true S) x b = .ok x S := (rfl)
theorem k_or0 (x : U) (b : Ex) : kOr2 C env (.ok false S) x b = evE b C env S := (rfl)
theorem k_cmp (x : U) (op : CmpOp) (b : Ex) : kCmp C env (.ok x S) op b = kCmp2 (evE b C env S) op x := (rfl)
theorem k_cmp2 (x y : U) (op : CmpOp) : kCmp2 (.ok y S) op x = kCmp3 (cmpU op x y S) S := (rfl)
theorem k_cmp3 (t : Bool) : kCmp3 (some t) S = .ok (.d (.bool t)) S := (rfl)
theorem k_c2 (x : U) (op op2 : CmpOp) (b c : Ex) : kC2 C env (.ok x S) op op2 b c = kC2b C env (evE b C env S) op op2 x c := (rfl)
theorem k_c2b (x y : U) (op op2 : CmpOp) (c : Ex) : kC2b C env (.ok y S) op op2 x c = kC2c C env (cmpU op x y S) op2 y c S := by
  unfold kC2b kC2c
  simp only [rb_ok]
theorem k_c2t (y : U) (op2 : CmpOp) (c : Ex) : kC2c C env (some true) op2 y c S = kCmp2 (evE c C env S) op2 y := (rfl)
theorem k_c2f (y : U) (op2 : CmpOp) (c : Ex) : kC2c C env (some false) op2 y c S = .ok (.d (.bool false)) S := (rfl)
theorem k_ite (u : U) (a b : Ex) : kIte C env (.ok u S) a b = kIte2 C env (tru u S) a b := (rfl)
theorem k_ite1 (a b : Ex) : kIte2 C env (.ok true S) a b = evE a C env S := (rfl)
theorem k_ite0 (a b : Ex) : kIte2 C env (.ok false S) a b = evE b C env S := (rfl)
theorem k_call (us : List U) (f : Nat) : kCall C (.ok us S) f = C f us S := (rfl)
theorem k_ck (us : List U) (f : Nat) (p : List Nat) (ks : Exs) : kCk C env (.ok us S) f p ks = kCk2 C (evEs ks C env S) f us p := (rfl)
theorem k_ck2 (us vs : List U) (f : Nat) (p : List Nat) : kCk2 C (.ok vs S) f us p = C f (permU us p vs) S := (rfl)
theorem k_blt (us : List U) (f : Bf) : kBlt (.ok us S) f = bltU f us S := (rfl)
theorem k_isi (d : D) (t : Ty) : kIsi (.ok (.d d) S) t = .ok (.d (.bool (isiD t d))) S := (rfl)
theorem k_idx (x : U) (b : Ex) : kIdx C env (.ok x S) b = kIdx2 (evE b C env S) x := (rfl)
theorem k_idx2 (x y : U) : kIdx2 (.ok y S) x = idxU x y S := (rfl)
theorem k_sl (x : U) (m : Bool) (lo hi : Eo) : kSl C env (.ok x S) m lo hi = kSl2 C env (evO lo C env S) m x hi := (rfl)
theorem k_sl2 (x : U) (m : Bool) (l : Option Int) (hi : Eo) : kSl2 C env (.ok l S) m x hi = kSl3 (evO hi C env S) m x l := (rfl)
theorem k_sl3 (x : U) (m : Bool) (l h : Option Int) : kSl3 (.ok h S) m x l = slU m x l h S := (rfl)
theorem k_tup (us : List U) : kTup (.ok us S) = kTup2 (frzs us S) := (rfl)
theorem k_tup2 (ds : List D) : kTup2 (.ok ds S) = if ds.length ≤ sizeLine then .ok (.d (.tuple ds)) S else .no := (rfl)
theorem k_lst (us : List U) (m : Bool) : kLst (.ok us S) m = kLst2 (frzs us S) m := (rfl)
theorem k_lst2 (ds : List D) (m : Bool) : kLst2 (.ok ds S) m = if ds.length ≤ sizeLine then mkL m ds S else .no := (rfl)
theorem f_nil : frzs [] S = .ok [] S := (rfl)
theorem f_cons (u : U) (us : List U) : frzs (u :: us) S = kFz (frz u S) us := (rfl)
theorem f_d (x : D) : frz (.d x) S = .ok x S := (rfl)
theorem k_fz (d : D) (us : List U) : kFz (.ok d S) us = kFz2 (frzs us S) d := (rfl)
theorem k_fz2 (d : D) (ds : List D) : kFz2 (.ok ds S) d = .ok (d :: ds) S := (rfl)
theorem k_comp (src : Src) (m : Bool) (own : List Nat) (tg : Tg) (ifs : Exs) (elt : Ex) : kComp C env (.ok src S) m own tg ifs elt = if src.1.length < sizeLine then kComp2 (compE C env own tg ifs elt src.2 src.1 S) m else .no := (rfl)
theorem k_comp2 (ds : List D) (m : Bool) : kComp2 (.ok ds S) m = mkL m ds S := (rfl)
theorem k_me (x : U) (f : Mt) (es : Exs) : kMe C env (.ok x S) f es = kMe1 C env (seqD x S) x f es S := (rfl)
theorem k_me1 (x : U) (f : Mt) (es : Exs) (s : Src) : kMe1 C env (some s) x f es S = kMe2 (evEs es C env S) f x := (rfl)
theorem k_sqD0 (xs : List D) (R : Sto) : seqD (.r 0) (some xs :: R) = some (xs, [(0, xs)]) := (rfl)
theorem k_me2 (x : U) (f : Mt) (us : List U) : kMe2 (.ok us S) f x = methU f x us S := (rfl)
theorem k_es (u : U) (es : Exs) : kEs C env (.ok u S) es = kEs2 (evEs es C env S) u := (rfl)
theorem k_es2 (u : U) (us : List U) : kEs2 (.ok us S) u = .ok (u :: us) S := (rfl)
theorem k_if (u : U) (es : Exs) : kIf C env (.ok u S) es = kIf2 C env (tru u S) es := (rfl)
theorem k_if1 (es : Exs) : kIf2 C env (.ok true S) es = evIfs es C env S := (rfl)
theorem k_if0 (es : Exs) : kIf2 C env (.ok false S) es = .ok false S := (rfl)
theorem k_o (i : Int) : kO (.ok (.d (.int i)) S) = .ok (some i) S := (rfl)
theorem k_iL (xs : List D) : kI (.ok (.d (.list xs)) S) = .ok (xs, []) S := (rfl)
theorem k_iT (xs : List D) : kI (.ok (.d (.tuple xs)) S) = .ok (xs, []) S := (rfl)
theorem k_iK (xs : List D) : kI (.ok (.k xs) S) = .ok (xs, []) S := (rfl)
theorem k_r1 (j : Int) : kR1 (.ok (.d (.int j)) S) = if -(2 ^ 62) ≤ j ∧ j < 2 ^ 62 then .ok (intsD 0 j.toNat, []) S else .no := (rfl)
theorem k_r2 (x : U) (b : Ex) : kR2 C env (.ok x S) b = kR2b (evE b C env S) x := (rfl)
theorem k_r2b (i j : Int) : kR2b (.ok (.d (.int j)) S) (.d (.int i)) = if -(2 ^ 62) ≤ i ∧ i < 2 ^ 62 ∧ -(2 ^ 62) ≤ j ∧ j < 2 ^ 62 then .ok (intsD i (j - i).toNat, []) S else .no := (rfl)
theorem k_sb (x : U) (i : Ex) (u : U) : kSb C env (.ok x S) i u = kSb2 env (evE i C env S) x u := (rfl)
theorem k_sb2 (x y u : U) : kSb2 env (.ok y S) x u = kSb3 env (setU x y u S) := (rfl)
theorem k_sb3 (a : Unit) : kSb3 env (.ok a S) = .ok env S := (rfl)
theorem k_ts (e : Env) (ts : Tgs) (ds : List D) : kTs C (.ok e S) ts ds = asgTs ts C ds e S := (rfl)
theorem k_as (u : U) (t : Tg) : kAs C env (.ok u S) t = kAs2 (asgT t C u env S) := (rfl)
theorem k_as2 (e : Env) : kAs2 (.ok e S) = .ok (.nx e) S := (rfl)
theorem k_par (us : List U) (is : List Nat) : kPar env (.ok us S) is = if us.length = is.length then .ok (.nx (setAll env is us)) S else .no := (rfl)
theorem k_aug (a b : Int) (i : Nat) (op : Operator) : kAug env (.ok (.d (.int b)) S) (.d (.int a)) i op = kAug2 env (binD op (.int a) (.int b)) i S := (rfl)
theorem k_aug2 (c : D) (i : Nat) : kAug2 env (some c) i S = .ok (.nx (env.set i (some (.d c)))) S := (rfl)
theorem k_ex (u : U) : kEx env (.ok u S) = .ok (.nx env) S := (rfl)
theorem k_ret1 (u : U) : kRet (.ok u S) true = kRet2 (frz u S) := (rfl)
theorem k_ret0 (u : U) : kRet (.ok u S) false = .ok (.ret u) S := (rfl)
theorem k_ret2 (d : D) : kRet2 (.ok d S) = .ok (.ret (.d d)) S := (rfl)
theorem k_ifs (u : U) (a b : Sts) : kIfs C env (.ok u S) a b = kIfs2 C env (tru u S) a b := (rfl)
theorem k_ifs1 (a b : Sts) : kIfs2 C env (.ok true S) a b = exSs a C env S := (rfl)
theorem k_ifs0 (a b : Sts) : kIfs2 C env (.ok false S) a b = exSs b C env S := (rfl)
theorem k_for (src : Src) (t : Tg) (b : Sts) : kFor C env (.ok src S) t b = forE C t b src.2 src.1 env S := (rfl)
theorem k_fo (e : Env) (t : Tg) (b : Sts) (xs : List D) : kFo C (.ok e S) t b xs = kFo2 C (exSs b C e S) t b xs := (rfl)
theorem k_foN (e : Env) (t : Tg) (b : Sts) (xs : List D) : kFo2 C (.ok (.nx e) S) t b xs = forE C t b [] xs e S := (rfl)
theorem k_foC (e : Env) (t : Tg) (b : Sts) (xs : List D) : kFo2 C (.ok (.ct e) S) t b xs = forE C t b [] xs e S := (rfl)
theorem k_foB (e : Env) (t : Tg) (b : Sts) (xs : List D) : kFo2 C (.ok (.bk e) S) t b xs = .ok (.nx e) S := (rfl)
theorem k_foR (u : U) (t : Tg) (b : Sts) (xs : List D) : kFo2 C (.ok (.ret u) S) t b xs = .ok (.ret u) S := (rfl)
theorem k_sqN (e : Env) (ss : Sts) : kSq C (.ok (.nx e) S) ss = exSs ss C e S := (rfl)
theorem k_sqC (e : Env) (ss : Sts) : kSq C (.ok (.ct e) S) ss = .ok (.ct e) S := (rfl)
theorem k_sqB (e : Env) (ss : Sts) : kSq C (.ok (.bk e) S) ss = .ok (.bk e) S := (rfl)
theorem k_sqR (u : U) (ss : Sts) : kSq C (.ok (.ret u) S) ss = .ok (.ret u) S := (rfl)
theorem k_fin (o : Out) (n : Nat) : kFin (.ok o S) n = fin n o S := (rfl)
theorem fin_d (x : D) (n : Nat) : fin n (.ret (.d x)) S = .ok (.d x) (S.take n) := (rfl)
theorem fin_nx (n : Nat) : fin n (.nx env) S = .ok (.d .none) (S.take n) := (rfl)
end
theorem call_at {T : Tab} {k f : Nat} {us : List U} {S : Sto} {p n : Nat} {c : Sts} (h : T[f]? = some ⟨p, n, c⟩) (hl : us.length = p ∧ p ≤ n) : call T (k + 1) f us S = kFin (exSs c (call T k) (us.map some ++ List.replicate (n - p) none) S) S.length := by
  have e : call T (k + 1) f us S = (match T[f]? with
    | some d => if us.length = d.np ∧ d.np ≤ d.nn then (exSs d.code (call T k) (us.map some ++ List.replicate (d.nn - d.np) none) S).bind (fun o S1 => fin S.length o S1) else .no
    | none => .no) := (rfl)
  rw [e, h]
  exact if_pos hl
/-! ### operations on data -/
section
variable (S : Sto) (m : Bool) (i j : Int) (a b : Bool) (x y : D) (xs ys : List D) (s t : Str)
theorem q_add : binU m .Add (.d (.int i)) (.d (.int j)) S = .ok (.d (.int (i + j))) S := (rfl)
theorem q_sub : binU m .Sub (.d (.int i)) (.d (.int j)) S = .ok (.d (.int (i - j))) S := (rfl)
theorem q_mul : binU m .Mult (.d (.int i)) (.d (.int j)) S = if mulOk i j = true then .ok (.d (.int (i * j))) S else .no := by
  by_cases h : (mulOk i j = true) <;> simp only [binU, der, binL, binD, h, if_pos, if_neg, not_false_eq_true] <;> rfl
theorem q_fdiv : binU m .FloorDiv (.d (.int i)) (.d (.int j)) S = if j ≠ 0 ∧ j.natAbs.log2 < 9000 then .ok (.d (.int (i.fdiv j))) S else .no := by
  by_cases h : (j ≠ 0 ∧ j.natAbs.log2 < 9000)
  · simp only [binU, der, binL, binD, if_pos h]
  · simp only [binU, der, binL, binD, if_neg h]
theorem q_mod : binU m .Mod (.d (.int i)) (.d (.int j)) S = if j ≠ 0 then .ok (.d (.int (i.fmod j))) S else .no := by
  by_cases h : (j ≠ 0)
  · simp only [binU, der, binL, binD, if_pos h]
  · simp only [binU, der, binL, binD, if_neg h]
theorem q_pow : binU m .Pow (.d (.int i)) (.d (.int j)) S = if 0 ≤ j ∧ j ≤ 1000000 ∧ i.natAbs < 2 ^ 64 then .ok (.d (.int (i ^ j.toNat))) S else .no := by
  by_cases h : (0 ≤ j ∧ j ≤ 1000000 ∧ i.natAbs < 2 ^ 64) <;> simp only [binU, der, binL, binD, h, if_pos, if_neg, not_false_eq_true] <;> rfl
theorem q_rep : binU m .Mult (.d (.list xs)) (.d (.int j)) S = if -(2 ^ 63) ≤ j ∧ j < 2 ^ 63 ∧ xs.length * j.toNat ≤ sizeLine then mkL m (List.replicate j.toNat xs).flatten S else .no := by
  by_cases h : (-(2 ^ 63) ≤ j ∧ j < 2 ^ 63 ∧ xs.length * j.toNat ≤ sizeLine) <;> simp only [binU, der, binL, binD, h, if_pos, if_neg, not_false_eq_true] <;> rfl
theorem q_cat : binU m .Add (.d (.list xs)) (.d (.list ys)) S = if xs.length + ys.length ≤ sizeLine then mkL m (xs ++ ys) S else .no := by
  by_cases h : (xs.length + ys.length ≤ sizeLine) <;> simp only [binU, der, binL, binD, h, if_pos, if_neg, not_false_eq_true] <;> rfl
theorem q_mkf : mkL false xs S = .ok (.d (.list xs)) S := (rfl)
theorem q_mkt : mkL true xs S = .ok (.r S.length) (S ++ [some xs]) := (rfl)
theorem q_cmp (op : CmpOp) : cmpU op (.d x) (.d y) S = cmpD op x y := (rfl)
theorem q_lt : cmpD .Lt (.int i) (.int j) = some (decide (i < j)) := (rfl)
theorem q_le : cmpD .LtE (.int i) (.int j) = some (decide (i ≤ j)) := (rfl)
theorem q_gt : cmpD .Gt (.int i) (.int j) = some (decide (j < i)) := (rfl)
theorem q_ge : cmpD .GtE (.int i) (.int j) = some (decide (j ≤ i)) := (rfl)
theorem q_eqI : cmpD .Eq (.int i) (.int j) = some (decide (i = j)) := by
  simp [cmpD, sh, SeqAt.shaped, PyData.canLay0, PyData.depth, PyData.eqv, Bool.beq_eq_decide_eq]
theorem q_neI : cmpD .NotEq (.int i) (.int j) = some (!decide (i = j)) := by
  simp [cmpD, sh, SeqAt.shaped, PyData.canLay0, PyData.depth, PyData.eqv, Bool.beq_eq_decide_eq]
theorem q_eqS : cmpD .Eq (.str s) (.str t) = some (decide (s = t)) := (rfl)
theorem q_neS : cmpD .NotEq (.str s) (.str t) = some (!decide (s = t)) := (rfl)
theorem q_isB : cmpD .Is (.bool a) (.bool b) = some (decide (a = b)) := (rfl)
theorem q_notB : cmpD .IsNot (.bool a) (.bool b) = some (!decide (a = b)) := (rfl)
theorem q_isN : cmpD .Is x .none = some (isN x) := by cases x <;> rfl
theorem q_notN : cmpD .IsNot x .none = some (!isN x) := by cases x <;> rfl
theorem q_truB : tru (.d (.bool b)) S = .ok b S := (rfl)
theorem q_truI : tru (.d (.int i)) S = .ok (i != 0) S := (rfl)
theorem q_truL : tru (.d (.list xs)) S = .ok (!xs.isEmpty) S := (rfl)
theorem q_truT : tru (.d (.tuple xs)) S = .ok (!xs.isEmpty) S := (rfl)
theorem q_truN : tru (.d .none) S = .ok false S := (rfl)
theorem q_ixT : idxU (.d (.tuple xs)) (.d (.int i)) S = match atI xs i with
    | some d => .ok (.d d) S
    | none => .no := (rfl)
theorem q_ixL : idxU (.d (.list xs)) (.d (.int i)) S = match atI xs i with
    | some d => .ok (.d d) S
    | none => .no := (rfl)
theorem q_ixK : idxU (.k xs) (.d (.int i)) S = match atI xs i with
    | some d => .ok (.d d) S
    | none => .no := (rfl)
theorem q_der : der S (.d x) = some x := (rfl)
theorem q_at0 : atI (x :: xs) 0 = some x := by simp [atI, ixN]
theorem q_atN {n : Nat} {z : D} (h : xs[n]? = some z) : atI xs (n : Int) = some z := by
  have h1 := (List.getElem?_eq_some_iff.mp h).1
  have h2 : ((n : Int) < (xs.length : Int)) := by omega
  simp only [atI, ixN, Int.natCast_nonneg, if_true, if_pos h2, Int.toNat_natCast, Option.bind_some, h]
theorem q_at1 : atI (x :: y :: xs) 1 = some y := q_atN _ (n := 1) rfl
theorem q_at2 {z : D} : atI (x :: y :: z :: xs) 2 = some z := q_atN _ (n := 2) rfl
theorem q_at3 {z w : D} : atI (x :: y :: z :: w :: xs) 3 = some w := q_atN _ (n := 3) rfl
end
/-! ### bounds -/
def Sm (b : Nat) (i : Int) : Prop := i.natAbs < 2 ^ b
theorem Sm.mono {b c : Nat} {i : Int} (h : Sm b i) (l : b ≤ c) : Sm c i := Nat.lt_of_lt_of_le h (Nat.pow_le_pow_right (by decide) l)
theorem Sm.add {b c : Nat} {i j : Int} (h : Sm b i) (g : Sm c j) : Sm (max b c + 1) (i + j) := by
  have h1 := h.mono (Nat.le_max_left b c)
  have h2 := g.mono (Nat.le_max_right b c)
  unfold Sm at *
  rw [Nat.pow_succ]
  omega
theorem Sm.neg {b : Nat} {i : Int} (h : Sm b i) : Sm b (-i) := by
  unfold Sm at *
  rw [Int.natAbs_neg]
  exact h
theorem Sm.sub {b c : Nat} {i j : Int} (h : Sm b i) (g : Sm c j) : Sm (max b c + 1) (i - j) := by
  rw [Int.sub_eq_add_neg]
  exact h.add g.neg
theorem Sm.mul {b c : Nat} {i j : Int} (h : Sm b i) (g : Sm c j) : Sm (b + c) (i * j) := by
  unfold Sm at *
  rw [Int.natAbs_mul, Nat.pow_add]
  exact Nat.mul_lt_mul'' h g
theorem Sm.fdiv {b : Nat} {i j : Int} (h : Sm b i) : Sm (b + 1) (i.fdiv j) := by
  unfold Sm at *
  have h1 : (i.fdiv j).natAbs ≤ i.natAbs + 1 := by
    by_cases hj : j = 0
    · subst hj; simp
    · rw [Int.fdiv_eq_ediv]
      have h0 : (i / j).natAbs ≤ i.natAbs := Int.natAbs_ediv_le_natAbs i j
      split <;> omega
  rw [Nat.pow_succ]
  have : 0 < 2 ^ b := Nat.pow_pos (by decide)
  omega
theorem Sm.zero : Sm 0 0 := by unfold Sm; decide
theorem Sm.log {b n : Nat} {i : Int} (h : Sm b i) (l : b ≤ n) (h0 : 0 < n) : i.natAbs.log2 < n := by
  by_cases e : i.natAbs = 0
  · rw [e]; simpa using h0
  · rw [Nat.log2_lt e]
    exact Nat.lt_of_lt_of_le h (Nat.pow_le_pow_right (by decide) l)
def MO (i j : Int) : Prop := ∃ b c, Sm b i ∧ Sm c j ∧ b + c ≤ 1000000
theorem MO.mk {b c : Nat} {i j : Int} (h : Sm b i) (g : Sm c j) (l : b + c ≤ 1000000) : MO i j := ⟨b, c, h, g, l⟩
theorem bits_sm {b : Nat} {i : Int} (h : Sm b i) : Builtin.Int.intBits i ≤ b := by
  unfold Builtin.Int.intBits
  split
  · exact Nat.zero_le _
  · rename_i hi
    have h0 : i.natAbs ≠ 0 := fun e => hi (by simp [Int.natAbs_eq_zero.mp e])
    have := (Nat.log2_lt h0).mpr h
    omega
theorem MO.ok {i j : Int} (h : MO i j) : mulOk i j = true := by
  obtain ⟨b, c, h1, h2, l⟩ := h
  have a1 := bits_sm h1
  have a2 := bits_sm h2
  unfold mulOk Builtin.Int.intTooBig
  have e : bitsLine = 134217728 := by decide
  rw [e]
  simp
  omega
/-- a factor of few bits -/
theorem mulOk_l {i j : Int} (h : Sm 64 i) : mulOk i j = true := by
  have a1 := bits_sm h
  unfold mulOk
  have e : shortFactorBits = 64 := (rfl)
  rw [e]
  simp
  omega
theorem mulOk_r {i j : Int} (h : Sm 64 j) : mulOk i j = true := by
  have a1 := bits_sm h
  unfold mulOk
  have e : shortFactorBits = 64 := (rfl)
  rw [e]
  simp
  omega
theorem q_mulG (S : Sto) (m : Bool) {i j : Int} (h : mulOk i j = true) : binU m .Mult (.d (.int i)) (.d (.int j)) S = .ok (.d (.int (i * j))) S := by rw [q_mul, if_pos h]
theorem q_fdivG (S : Sto) (m : Bool) {i j : Int} (h : j ≠ 0) (g : j.natAbs.log2 < 9000) : binU m .FloorDiv (.d (.int i)) (.d (.int j)) S = .ok (.d (.int (i.fdiv j))) S := by rw [q_fdiv, if_pos ⟨h, g⟩]
theorem q_modG (S : Sto) (m : Bool) {i j : Int} (h : j ≠ 0) : binU m .Mod (.d (.int i)) (.d (.int j)) S = .ok (.d (.int (i.fmod j))) S := by rw [q_mod, if_pos h]
theorem b_repr (S : Sto) {d : D} (h : rpB d = true) : bltU .repr [.d d] S = .ok (.d (.str d.shown)) S := by
  simp only [bltU, ders, der, bltD, h, if_true]
/-! ### walks over plain data -/
theorem compL_nil (f : D → Sto → Res (Option D)) (S : Sto) : compL f [] [] S = .ok [] S := by
  unfold compL
  exact if_pos fun p h => by cases h
theorem compL_cons (f : D → Sto → Res (Option D)) (x : D) (xs : List D) (S : Sto) : compL f [] (x :: xs) S = (f x S).bind fun o S1 => (compL f [] xs S1).bind fun ds S2 => .ok (match o with
      | some d => d :: ds
      | none => ds) S2 := by
  rw [compL]
  exact if_pos fun p h => by cases h
theorem d_nil (C : Calls) (env : Env) (own : List Nat) (tg : Tg) (ifs : Exs) (own1 : List Nat) (tg1 : Tg) (it1 : Itr) (ifs1 : Exs) (elt : Ex) (S : Sto) : dbl C env own tg ifs own1 tg1 it1 ifs1 elt [] [] S = .ok [] S := by
  unfold dbl compLL
  exact if_pos fun p h => by cases h
theorem d_cons (C : Calls) (env : Env) (own : List Nat) (tg : Tg) (ifs : Exs) (own1 : List Nat) (tg1 : Tg) (it1 : Itr) (ifs1 : Exs) (elt : Ex) (x : D) (xs : List D) (S : Sto) : dbl C env own tg ifs own1 tg1 it1 ifs1 elt [] (x :: xs) S = kDbN C env (kDbT C (asgT tg C (.d x) (wipeE env own) S) ifs own1 tg1 it1 ifs1 elt) own tg ifs own1 tg1 it1 ifs1 elt xs := by
  unfold dbl
  rw [compLL]
  exact if_pos fun p h => by cases h
theorem forL_nil (f : D → Env → Sto → Res Out) (e : Env) (S : Sto) : forL f [] [] e S = .ok (.nx e) S := by
  unfold forL
  exact if_pos fun p h => by cases h
theorem forL_cons (f : D → Env → Sto → Res Out) (x : D) (xs : List D) (e : Env) (S : Sto) : forL f [] (x :: xs) e S = (f x e S).bind fun o S1 => match o with
      | .nx e => forL f [] xs e S1
      | .ct e => forL f [] xs e S1
      | .bk e => .ok (.nx e) S1
      | .ret u => .ok (.ret u) S1 := by
  rw [forL]
  exact if_pos fun p h => by cases h
theorem whN_mono {c : Env → Sto → Res Bool} {b : Env → Sto → Res Out} : ∀ {n : Nat} {m : Nat} {e : Env} {S S' : Sto} {o : Out}, whN c b n e S = .ok o S' → n ≤ m → whN c b m e S = .ok o S'
  | 0, _, _, _, _, _, h, _ => by cases h
  | n + 1, 0, _, _, _, _, _, l => by omega
  | n + 1, m + 1, e, S, S', o, h, l => by
    unfold whN at h ⊢
    obtain ⟨t, S1, h1, h⟩ := bind_ok h
    rw [h1]
    simp only [rb_ok]
    split at h
    · rename_i ht
      rw [if_pos ht]
      obtain ⟨o1, S2, h2, h⟩ := bind_ok h
      rw [h2]
      simp only [rb_ok]
      cases o1 with
      | nx e2 => exact whN_mono h (by omega)
      | ct e2 => exact whN_mono h (by omega)
      | bk e2 => exact h
      | ret u => exact h
    · rename_i ht
      rw [if_neg ht]
      exact h
theorem whL_of {c : Env → Sto → Res Bool} {b : Env → Sto → Res Out} {n : Nat} {e : Env} {S S' : Sto} {o : Out} (h : whN c b n e S = .ok o S') : whL c b e S = .ok o S' := by
  have hx : ∃ n, whN c b n e S ≠ .no := ⟨n, by rw [h]; intro c; cases c⟩
  unfold whL
  rw [dif_pos hx]
  have hc := hx.choose_spec
  cases e2 : whN c b hx.choose e S with
  | no => exact absurd e2 hc
  | ok o2 S2 =>
    have z1 := whN_mono h (Nat.le_max_left n hx.choose)
    have z2 := whN_mono e2 (Nat.le_max_right n hx.choose)
    rw [z1] at z2
    cases z2
    rfl
/-- one turn of a while -/
theorem whL_turn {c : Env → Sto → Res Bool} {b : Env → Sto → Res Out} {e e1 : Env} {S S1 S2 S' : Sto} {o : Out} (h1 : c e S = .ok true S1) (h2 : b e S1 = .ok (.nx e1) S2) (h : whL c b e1 S2 = .ok o S') : whL c b e S = .ok o S' := by
  obtain ⟨n, h⟩ := whL_ok h
  refine whL_of (n := n + 1) ?_
  unfold whN
  rw [h1]
  simp only [rb_ok, if_true]
  rw [h2]
  exact h
theorem whL_stop {c : Env → Sto → Res Bool} {b : Env → Sto → Res Out} {e : Env} {S S1 : Sto} (h1 : c e S = .ok false S1) : whL c b e S = .ok (.nx e) S1 := by
  refine whL_of (n := 1) ?_
  unfold whN
  rw [h1]
  rfl
theorem whL_turnRet {c : Env → Sto → Res Bool} {b : Env → Sto → Res Out} {e : Env} {S S1 S2 : Sto} {u : U} (h1 : c e S = .ok true S1) (h2 : b e S1 = .ok (.ret u) S2) : whL c b e S = .ok (.ret u) S2 := by
  refine whL_of (n := 1) ?_
  unfold whN
  rw [h1]
  simp only [rb_ok, if_true]
  rw [h2]
  rfl
theorem c_nil (C : Calls) (env : Env) (own : List Nat) (tg : Tg) (ifs : Exs) (elt : Ex) (S : Sto) : compE C env own tg ifs elt [] [] S = .ok [] S := compL_nil _ _
theorem c_cons (C : Calls) (env : Env) (own : List Nat) (tg : Tg) (ifs : Exs) (elt : Ex) (x : D) (xs : List D) (S : Sto) : compE C env own tg ifs elt [] (x :: xs) S = kCs C env (asgT tg C (.d x) (wipeE env own) S) own tg ifs elt xs := by
  unfold compE kCs
  rw [compL_cons]
  cases asgT tg C (.d x) (wipeE env own) S <;> rfl
section
variable (C : Calls) (env : Env) (S : Sto) (own : List Nat) (tg : Tg) (ifs : Exs) (elt : Ex) (xs : List D)
theorem k_cs (e2 : Env) : kCs C env (.ok e2 S) own tg ifs elt xs = kCs2 C env (evIfs ifs C e2 S) e2 own tg ifs elt xs := (rfl)
theorem k_cs1 (e2 : Env) : kCs2 C env (.ok true S) e2 own tg ifs elt xs = kCs3 C env (evE elt C e2 S) own tg ifs elt xs := by
  unfold kCs2 kCs3
  simp only [rb_ok, if_true]
  cases evE elt C e2 S with
  | no => rfl
  | ok u S5 =>
    simp only [rb_ok]
    cases frz u S5 <;> rfl
theorem rb_id {α : Type} (r : Res α) : (r.bind fun a S => .ok a S) = r := by cases r <;> rfl
theorem k_cs0 (e2 : Env) : kCs2 C env (.ok false S) e2 own tg ifs elt xs = compE C env own tg ifs elt [] xs S := by
  unfold kCs2
  simp only [rb_ok, if_false, Bool.false_eq_true]
  exact rb_id _
theorem k_cs3 (u : U) : kCs3 C env (.ok u S) own tg ifs elt xs = kCs4 C env (frz u S) own tg ifs elt xs := (rfl)
theorem k_cs4 (d : D) : kCs4 C env (.ok d S) own tg ifs elt xs = kCs5 (compE C env own tg ifs elt [] xs S) d := (rfl)
theorem k_cs5 (d : D) (ds : List D) : kCs5 (.ok ds S) d = .ok (d :: ds) S := (rfl)
theorem fo_nil (t : Tg) (b : Sts) (e : Env) : forE C t b [] [] e S = .ok (.nx e) S := forL_nil _ _ _
theorem fo_cons (t : Tg) (b : Sts) (x : D) (e : Env) : forE C t b [] (x :: xs) e S = kFo C (asgT t C (.d x) e S) t b xs := by
  unfold forE
  rw [forL_cons]
  rfl
theorem wh_turn {c : Ex} {b : Sts} {e e1 : Env} {S S1 S2 S' : Sto} {o : Out} (h1 : evT c C e S = .ok true S1) (h2 : exSs b C e S1 = .ok (.nx e1) S2) (h : whE C c b e1 S2 = .ok o S') : whE C c b e S = .ok o S' := whL_turn h1 h2 h
theorem wh_stop {c : Ex} {b : Sts} {e : Env} {S S1 : Sto} (h1 : evT c C e S = .ok false S1) : whE C c b e S = .ok (.nx e) S1 := whL_stop h1
theorem wh_ret {c : Ex} {b : Sts} {e : Env} {S S1 S2 : Sto} {u : U} (h1 : evT c C e S = .ok true S1) (h2 : exSs b C e S1 = .ok (.ret u) S2) : whE C c b e S = .ok (.ret u) S2 := whL_turnRet h1 h2
end
theorem sizeL : sizeLine = 16777216 := by decide
/-! ### own lists at the store's head; built-in functions -/
section
variable (S R : Sto) (m : Bool) (i j : Int) (b : Bool) (x : D) (xs : List D)
theorem q_ixR0 : idxU (.r 0) (.d (.int i)) (some xs :: R) = match atI xs i with
    | some d => .ok (.d d) (some xs :: R)
    | none => .no := (rfl)
theorem q_setR0 : setU (.r 0) (.d (.int i)) (.d x) (some xs :: R) = match ixN xs.length i with
    | some n => .ok () (some (xs.set n x) :: R)
    | none => .no := (rfl)
def kIxR (o : Option (Option (List D))) (i : Int) (S : Sto) : Res U := match o with
    | some (some xs) => (match atI xs i with
      | some d => .ok (.d d) S
      | none => .no)
    | _ => .no
theorem q_ixR (k : Nat) : idxU (.r k) (.d (.int i)) S = kIxR S[k]? i S := by
  unfold idxU kIxR
  simp only [der]
  cases S[k]? with
  | none => rfl
  | some c => cases c <;> rfl
def kIx2 (o : Option D) (S : Sto) : Res U := match o with
    | some d => .ok (.d d) S
    | none => .no
theorem k_ixR : kIxR (some (some xs)) i S = kIx2 (atI xs i) S := (rfl)
theorem k_ix2 : kIx2 (some x) S = .ok (.d x) S := (rfl)
def kStR (o : Option (Option (List D))) (k : Nat) (i : Int) (x : D) (S : Sto) : Res Unit := match o with
    | some (some xs) => (match ixN xs.length i with
      | some n => .ok () (S.set k (some (xs.set n x)))
      | none => .no)
    | _ => .no
theorem q_stR (k : Nat) : setU (.r k) (.d (.int i)) (.d x) S = kStR S[k]? k i x S := (rfl)
def kSt2 (o : Option Nat) (k : Nat) (xs : List D) (x : D) (S : Sto) : Res Unit := match o with
    | some n => .ok () (S.set k (some (xs.set n x)))
    | none => .no
theorem k_stR (k : Nat) : kStR (some (some xs)) k i x S = kSt2 (ixN xs.length i) k xs x S := (rfl)
theorem k_st2 (k n : Nat) : kSt2 (some n) k xs x S = .ok () (S.set k (some (xs.set n x))) := (rfl)
theorem take_set (k : Nat) (c : Option (List D)) : (S.set k c).take S.length = S.set k c := by rw [List.take_of_length_le (by simp)]
theorem get_set {k : Nat} (c : Option (List D)) (h : k < S.length) : (S.set k c)[k]? = some c := List.getElem?_set_self h
theorem q_slK (lo hi : Option Int) : slU m (.k xs) lo hi S = mkL m (cutD xs lo hi) S := (rfl)
theorem q_slL (lo hi : Option Int) : slU m (.d (.list xs)) lo hi S = mkL m (cutD xs lo hi) S := (rfl)
theorem cut_map (ns : List Int) (lo hi : Option Int) : ∃ ms : List Int, cutD (ns.map PyData.int) lo hi = ms.map PyData.int ∧ ms.length ≤ ns.length := by
  refine ⟨(ns.drop (HT.sIx ns.length 0 lo)).take (HT.sIx ns.length ns.length hi - HT.sIx ns.length 0 lo), ?_, ?_⟩
  · unfold cutD
    rw [List.length_map, List.map_take, List.map_drop]
  · rw [List.length_take, List.length_drop]; omega
theorem fin_new (xs : List D) : fin S.length (.ret (.r S.length)) (S ++ [some xs]) = .ok (.r S.length) (S ++ [some xs]) := by
  unfold fin
  simp only [Nat.lt_irrefl, if_false, List.getElem?_append_right (Nat.le_refl _), Nat.sub_self, List.getElem?_cons_zero, List.take_left]
theorem ix30 : ixN 3 0 = some 0 := by decide
theorem ix31 : ixN 3 1 = some 1 := by decide
theorem ix32 : ixN 3 2 = some 2 := by decide
theorem b_lenL : bltU .len [.d (.list xs)] S = .ok (.d (.int xs.length)) S := (rfl)
theorem b_lenT : bltU .len [.d (.tuple xs)] S = .ok (.d (.int xs.length)) S := (rfl)
theorem b_lenK : bltU .len [.k xs] S = .ok (.d (.int xs.length)) S := (rfl)
theorem b_int : bltU .int [.d (.int i)] S = .ok (.d (.int i)) S := (rfl)
theorem b_intB : bltU .int [.d (.bool b)] S = .ok (.d (.int (if b then 1 else 0))) S := (rfl)
theorem b_boolI : bltU .bool [.d (.int i)] S = .ok (.d (.bool (i != 0))) S := (rfl)
theorem b_abs : bltU .abs [.d (.int i)] S = .ok (.d (.int (if i < 0 then -i else i))) S := (rfl)
theorem b_max : bltU .max [.d (.int i), .d (.int j)] S = .ok (.d (.int (if j > i then j else i))) S := (rfl)
theorem b_min : bltU .min [.d (.int i), .d (.int j)] S = .ok (.d (.int (if j < i then j else i))) S := (rfl)
theorem b_tupL : bltU .tuple [.d (.list xs)] S = .ok (.d (.tuple xs)) S := (rfl)
theorem b_tupT : bltU .tuple [.d (.tuple xs)] S = .ok (.d (.tuple xs)) S := (rfl)
theorem b_gcd : bltU .gcd [.d (.int i), .d (.int j)] S = .ok (.d (.int ((Nat.gcd i.natAbs j.natAbs : Nat) : Int))) S := (rfl)
theorem b_listL : bltU (.list m) [.d (.list xs)] S = mkL m xs S := (rfl)
theorem b_listT : bltU (.list m) [.d (.tuple xs)] S = mkL m xs S := (rfl)
theorem b_listK : bltU (.list m) [.k xs] S = mkL m xs S := (rfl)
theorem b_all : bltU .all [.d (.list xs)] S = match (asBools xs).map fun bs => PyData.bool (bs.all id) with
    | some d => .ok (.d d) S
    | none => .no := (rfl)
theorem b_any : bltU .any [.d (.list xs)] S = match (asBools xs).map fun bs => PyData.bool (bs.any id) with
    | some d => .ok (.d d) S
    | none => .no := (rfl)
theorem b_sum : bltU .sum [.d (.list xs)] S = match (asInts xs).map fun ns => PyData.int ns.sum with
    | some d => .ok (.d d) S
    | none => .no := (rfl)
theorem b_divmod {i j : Int} (h : 0 < j) (g : j.natAbs.log2 < 9000) : bltU .divmod [.d (.int i), .d (.int j)] S = .ok (.d (.tuple [.int (i / j), .int (i % j)])) S := by
  simp only [bltU, ders, der, bltD, if_pos (And.intro h g)]
end
end Ev

/-! Ev12: lists of data; cuts; sums of tuples. -/
namespace Ev
open PySem L2
/-- a comprehension without a test, item by item -/
theorem c_all {α : Type} {C : Calls} {env : Env} {own : List Nat} {tg : Tg} {elt : Ex} {S : Sto} (f g : α → D) : ∀ (xs : List α), (∀ x ∈ xs, ∃ e2, asgT tg C (.d (f x)) (wipeE env own) S = .ok e2 S ∧ evE elt C e2 S = .ok (.d (g x)) S) → compE C env own tg .nil elt [] (xs.map f) S = .ok (xs.map g) S
  | [], _ => c_nil _ _ _ _ _ _ _
  | x :: xs, h => by
    obtain ⟨e2, h1, h2⟩ := h x List.mem_cons_self
    rw [List.map_cons, c_cons, h1, k_cs, if_nil, k_cs1, h2, k_cs3, f_d, k_cs4, c_all f g xs fun y hy => h y (List.mem_cons_of_mem _ hy), k_cs5]
    rfl
section
variable (S : Sto) (m : Bool) (x y z w : D) (xs ys : List D)
theorem q_catT : binU m .Add (.d (.tuple xs)) (.d (.tuple ys)) S = if xs ≠ [] ∧ xs.length + ys.length ≤ sizeLine then .ok (.d (.tuple (xs ++ ys))) S else .no := by
  by_cases h : xs ≠ [] ∧ xs.length + ys.length ≤ sizeLine
  · simp only [binU, der, binL, binD, if_pos h]
  · simp only [binU, der, binL, binD, if_neg h]
theorem q_slT (lo hi : Option Int) : slU m (.d (.tuple xs)) lo hi S = .ok (.d (.tuple (cutD xs lo hi))) S := (rfl)
theorem cat13 : binU m .Add (.d (.tuple [x])) (.d (.tuple [y, z, w])) S = .ok (.d (.tuple [x, y, z, w])) S := by rw [q_catT, if_pos ⟨by simp, by simp [sizeL]⟩]; rfl
theorem cat21 : binU m .Add (.d (.tuple [x, y])) (.d (.tuple [z])) S = .ok (.d (.tuple [x, y, z])) S := by rw [q_catT, if_pos ⟨by simp, by simp [sizeL]⟩]; rfl
theorem cut13 : slU m (.d (.tuple [x, y, z, w])) (some 1) (some 3) S = .ok (.d (.tuple [y, z])) S := (rfl)
theorem cut1 : slU m (.d (.tuple [x, y, z, w])) (some 1) none S = .ok (.d (.tuple [y, z, w])) S := (rfl)
end
/-- the greatest common divisor of two -/
def gc (a b : Int) : Int := ((Nat.gcd a.natAbs b.natAbs : Nat) : Int)
/-- of a list -/
def gcL (ns : List Int) : Int := ns.foldl gc 0
theorem gc_nn (a b : Int) : 0 ≤ gc a b := by unfold gc; omega
theorem gcL_from : ∀ (ns : List Int) (g : Int), 0 ≤ g → 0 ≤ ns.foldl gc g ∧ (ns.foldl gc g ∣ g) ∧ ∀ x ∈ ns, ns.foldl gc g ∣ x
  | [], g, h => ⟨h, Int.dvd_refl g, fun x hx => by cases hx⟩
  | n :: ns, g, h => by
    obtain ⟨a, b, c⟩ := gcL_from ns (gc g n) (gc_nn _ _)
    have d1 : gc g n ∣ g := Int.ofNat_dvd_left.mpr (Nat.gcd_dvd_left _ _)
    have d2 : gc g n ∣ n := Int.ofNat_dvd_left.mpr (Nat.gcd_dvd_right _ _)
    refine ⟨a, Int.dvd_trans b d1, fun x hx => ?_⟩
    rcases List.mem_cons.mp hx with rfl | hx
    · exact Int.dvd_trans b d2
    · exact c x hx
theorem gcL_nn (ns : List Int) : 0 ≤ gcL ns := (gcL_from ns 0 (by decide)).1
theorem gcL_dvd {ns : List Int} {x : Int} (h : x ∈ ns) : gcL ns ∣ x := (gcL_from ns 0 (by decide)).2.2 x h
theorem gcL_greatest {d : Int} : ∀ (ns : List Int) (g : Int), d ∣ g → (∀ x ∈ ns, d ∣ x) → d ∣ ns.foldl gc g
  | [], g, h, _ => h
  | n :: ns, g, h, k => gcL_greatest ns (gc g n) (by
      unfold gc
      refine Int.natAbs_dvd_natAbs.mp ?_
      rw [Int.natAbs_natCast]
      exact Nat.dvd_gcd (Int.natAbs_dvd_natAbs.mpr h) (Int.natAbs_dvd_natAbs.mpr (k n List.mem_cons_self))) fun x hx => k x (List.mem_cons_of_mem _ hx)
theorem gcL_zero {ns : List Int} (h : gcL ns = 0) : ∀ x ∈ ns, x = 0 := fun x hx => by
  have := gcL_dvd hx
  rw [h] at this
  exact Int.zero_dvd.mp this
theorem gcL_sm {k : Nat} {ns : List Int} (h : ∀ x ∈ ns, Sm k x) : Sm k (gcL ns) := by
  by_cases h0 : gcL ns = 0
  · rw [h0]; unfold Sm; exact Nat.pow_pos (by decide)
  · obtain ⟨x, hx, hx0⟩ : ∃ x ∈ ns, x ≠ 0 := Classical.byContradiction fun c => h0 (by
      have c' : ∀ x ∈ ns, x = 0 := fun x hx => Classical.byContradiction fun d => c ⟨x, hx, d⟩
      have all : ∀ (l : List Int), (∀ x ∈ l, x = 0) → l.foldl gc 0 = 0 := fun l => by
        induction l with
        | nil => intro _; rfl
        | cons a l ih =>
          intro h
          have ha := h a List.mem_cons_self
          subst ha
          exact ih fun x hx => h x (List.mem_cons_of_mem _ hx)
      exact all ns c')
    have d := gcL_dvd hx
    unfold Sm at *
    exact Nat.lt_of_le_of_lt (Nat.le_of_dvd (by omega) (Int.natAbs_dvd_natAbs.mpr d)) (h x hx)
/-- divided by the greatest common divisor -/
def redL (ns : List Int) : List Int := ns.map fun x => x.fdiv (gcL ns)
theorem redL_one {ns : List Int} (h : ¬ 1 < gcL ns) : redL ns = ns := by
  have nn := gcL_nn ns
  unfold redL
  conv => rhs; rw [← List.map_id ns]
  refine List.map_congr_left fun x hx => ?_
  have e : gcL ns = 0 ∨ gcL ns = 1 := by omega
  rcases e with e | e
  · rw [gcL_zero e x hx]; simp
  · rw [e]; simp
/-! ### own lists, wherever they lie -/
section
variable {S : Sto} {j : Nat} {ys : List D}
theorem r_der (h : S[j]? = some (some ys)) : der S (.r j) = some (.list ys) := by simp only [der, h]
theorem r_seq (h : S[j]? = some (some ys)) : seqD (.r j) S = some (ys, [(j, ys)]) := by simp only [seqD, h]
theorem r_seqL (h : S[j]? = some (some ys)) : seqL (.r j) S = some (ys, [(j, ys)]) := by simp only [seqL, h]
theorem r_frz (h : S[j]? = some (some ys)) : frz (.r j) S = .ok (.list ys) (S.set j none) := by simp only [frz, h]
theorem r_app (x : D) (h : S[j]? = some (some ys)) (hl : ys.length < sizeLine) : methU .append (.r j) [.d x] S = .ok (.d .none) (S.set j (some (ys ++ [x]))) := by
  unfold methU
  simp only [h, frz, rb_ok, if_pos hl]
theorem r_ext (xs : List D) (h : S[j]? = some (some ys)) (hl : ys.length + xs.length ≤ sizeLine) : methU .extend (.r j) [.d (.list xs)] S = .ok (.d .none) (S.set j (some (ys ++ xs))) := by
  unfold methU
  simp only [h, der, if_pos hl]
theorem r_pop {d : D} (h : S[j]? = some (some ys)) (hd : ys[ys.length - 1]? = some d) : methU .pop (.r j) [] S = .ok (.d d) (S.set j (some ys.dropLast)) := by
  unfold methU
  simp only [h, hd]
theorem r_len (h : S[j]? = some (some ys)) : bltU .len [.r j] S = .ok (.d (.int ys.length)) S := by
  simp only [bltU, ders, r_der h, bltD]
theorem r_tup (h : S[j]? = some (some ys)) : bltU .tuple [.r j] S = .ok (.d (.tuple ys)) S := by
  simp only [bltU, ders, r_der h, bltD]
theorem r_idx {i : Int} {d : D} (h : S[j]? = some (some ys)) (hd : atI ys i = some d) : idxU (.r j) (.d (.int i)) S = .ok (.d d) S := by
  rw [q_ixR, h, k_ixR, hd, k_ix2]
theorem r_sl (m : Bool) (lo hi : Option Int) (h : S[j]? = some (some ys)) : slU m (.r j) lo hi S = mkL m (cutD ys lo hi) S := by
  unfold slU
  simp only [r_der h]
theorem r_tru (h : S[j]? = some (some ys)) : tru (.r j) S = .ok (!ys.isEmpty) S := by
  unfold tru
  simp only [r_der h, truD]
/-- a turn of a loop over lists that stand -/
theorem fo_own {C : Calls} {t : Tg} {b : Sts} {ls : List (Nat × List D)} {x : D} {xs : List D} {e : Env} (h : still ls S) : forE C t b ls (x :: xs) e S = ((asgT t C (.d x) e S).bind fun e2 S3 => exSs b C e2 S3).bind fun o S1 => match o with
      | .nx e => forE C t b ls xs e S1
      | .ct e => forE C t b ls xs e S1
      | .bk e => .ok (.nx e) S1
      | .ret u => .ok (.ret u) S1 := by
  unfold forE
  rw [forL, if_pos h] <;> rfl
theorem fo_ownE {C : Calls} {t : Tg} {b : Sts} {ls : List (Nat × List D)} {e : Env} (h : still ls S) : forE C t b ls [] e S = .ok (.nx e) S := by
  unfold forE
  rw [forL, if_pos h]
theorem still_one (h : S[j]? = some (some ys)) : still [(j, ys)] S := fun p hp => by
  have e : p = (j, ys) := by simpa using hp
  rw [e]
  exact h
theorem k_iR (h : S[j]? = some (some ys)) : kI (.ok (.r j) S) = .ok (ys, [(j, ys)]) S := by
  unfold kI
  simp only [rb_ok, r_seq h]
/-- name op= e, sequences in place -/
theorem q_augS (C : Calls) (env : Env) (o i e : Ex) (op : Operator) : exS (.augS o i op e) C env S = (evE o C env S).bind fun x S1 => (evE i C env S1).bind fun y S2 => (idxU x y S2).bind fun z S3 => (evE e C env S3).bind fun v S4 => match z, v with
    | .d (.int a), .d (.int b) => match binD op (.int a) (.int b) with
      | some c => (setU x y (.d c) S4).bind fun _ S5 => .ok (.nx env) S5
      | none => .no
    | _, _ => .no := by rw [exS] <;> rfl
end
/-! ### binD by name -/
theorem d_add (i j : Int) : binD .Add (.int i) (.int j) = some (.int (i + j)) := (rfl)
theorem d_sub (i j : Int) : binD .Sub (.int i) (.int j) = some (.int (i - j)) := (rfl)
theorem d_mul {i j : Int} (h : mulOk i j = true) : binD .Mult (.int i) (.int j) = some (.int (i * j)) := by simp only [binD, if_pos h]
/-! ### isqrt -/
theorem b_isqrt {i : Int} (h0 : 0 ≤ i) {k : Nat} (hk : Sm k i) (hl : k ≤ 13000) : ∃ r : Int, 0 ≤ r ∧ r * r ≤ i ∧ i < (r + 1) * (r + 1) ∧ ∀ S : Sto, bltU .isqrt [.d (.int i)] S = .ok (.d (.int r)) S := by
  have hlog : i.toNat.log2 < 13000 := by
    have := hk.log hl (by decide)
    have e : i.toNat = i.natAbs := by omega
    rw [e]
    exact this
  obtain ⟨s1, s2⟩ := PySem.Float64.isqrt_spec i.toNat
  refine ⟨(Float64.isqrt i.toNat : Nat), Int.natCast_nonneg _, ?_, ?_, fun S => ?_⟩
  · have : ((Float64.isqrt i.toNat * Float64.isqrt i.toNat : Nat) : Int) ≤ (i.toNat : Int) := Int.ofNat_le.mpr s1
    rw [Int.natCast_mul] at this
    omega
  · have : ((i.toNat : Nat) : Int) < (((Float64.isqrt i.toNat + 1) * (Float64.isqrt i.toNat + 1) : Nat) : Int) := Int.ofNat_lt.mpr s2
    rw [Int.natCast_mul, Int.natCast_add, show ((1 : Nat) : Int) = 1 from rfl] at this
    omega
  · simp only [bltU, ders, der, bltD, if_pos (And.intro h0 hlog)]
end Ev

namespace My
open PySem PySem.Spec PyProof.Rows L2 Ev
def top (i : Nat) : Stmt := PySem.Challenge.pw_steamlinks_k34_whole_polynomials_added_a.main.body.getD i (.Pass ⟨0, 0, 0, 0⟩)
def d_0 : He.DefD := ⟨("is_whole", none), "is_whole", "is_whole", defArgs (top 6), defBody (top 6), defScope (top 6), [], []⟩
def d_1 : He.DefD := ⟨("are_wholes", none), "are_wholes", "are_wholes", defArgs (top 7), defBody (top 7), defScope (top 7), [], []⟩
def d_2 : He.DefD := ⟨("is_ratio", none), "is_ratio", "is_ratio", defArgs (top 8), defBody (top 8), defScope (top 8), [], []⟩
def d_3 : He.DefD := ⟨("check_ratio", none), "check_ratio", "check_ratio", defArgs (top 9), defBody (top 9), defScope (top 9), [], []⟩
def d_4 : He.DefD := ⟨("ratio_of", none), "ratio_of", "ratio_of", defArgs (top 10), defBody (top 10), defScope (top 10), [], []⟩
def d_5 : He.DefD := ⟨("is_polynomial", none), "is_polynomial", "is_polynomial", defArgs (top 12), defBody (top 12), defScope (top 12), [], []⟩
def d_6 : He.DefD := ⟨("check_polynomial", none), "check_polynomial", "check_polynomial", defArgs (top 13), defBody (top 13), defScope (top 13), [], []⟩
def d_7 : He.DefD := ⟨("trimmed", none), "trimmed", "trimmed", defArgs (top 14), defBody (top 14), defScope (top 14), [], []⟩
def d_8 : He.DefD := ⟨("summed", none), "summed", "summed", defArgs (top 15), defBody (top 15), defScope (top 15), [], []⟩
def d_9 : He.DefD := ⟨("padded", none), "padded", "padded", defArgs (top 16), defBody (top 16), defScope (top 16), [], []⟩
def d_10 : He.DefD := ⟨("timed", none), "timed", "timed", defArgs (top 17), defBody (top 17), defScope (top 17), [], []⟩
def d_11 : He.DefD := ⟨("number_at", none), "number_at", "number_at", defArgs (top 18), defBody (top 18), defScope (top 18), [], []⟩
def d_12 : He.DefD := ⟨("added", none), "added", "added", defArgs (top 19), defBody (top 19), defScope (top 19), [], []⟩
def d_13 : He.DefD := ⟨("multiplied", none), "multiplied", "multiplied", defArgs (top 20), defBody (top 20), defScope (top 20), [], []⟩
def d_14 : He.DefD := ⟨("value_at", none), "value_at", "value_at", defArgs (top 21), defBody (top 21), defScope (top 21), [], []⟩
def d_15 : He.DefD := ⟨("_law_source", none), "_law_source", "_law_source", defArgs (top 23), defBody (top 23), defScope (top 23), [], []⟩
def d_16 : He.DefD := ⟨("_law_take", none), "_law_take", "_law_take", defArgs (top 24), defBody (top 24), defScope (top 24), [], []⟩
def d_17 : He.DefD := ⟨("_law_some", none), "_law_some", "_law_some", defArgs (top 25), defBody (top 25), defScope (top 25), [], []⟩
def d_18 : He.DefD := ⟨("_law_whole", none), "_law_whole", "_law_whole", defArgs (top 26), defBody (top 26), defScope (top 26), [], []⟩
def d_19 : He.DefD := ⟨("_law_common", none), "_law_common", "_law_common", defArgs (top 27), defBody (top 27), defScope (top 27), [], []⟩
def d_20 : He.DefD := ⟨("_law_ratio", none), "_law_ratio", "_law_ratio", defArgs (top 28), defBody (top 28), defScope (top 28), [], []⟩
def d_21 : He.DefD := ⟨("_law_trim", none), "_law_trim", "_law_trim", defArgs (top 29), defBody (top 29), defScope (top 29), [], []⟩
def d_22 : He.DefD := ⟨("_law_sum", none), "_law_sum", "_law_sum", defArgs (top 30), defBody (top 30), defScope (top 30), [], []⟩
def d_23 : He.DefD := ⟨("_law_times", none), "_law_times", "_law_times", defArgs (top 31), defBody (top 31), defScope (top 31), [], []⟩
def d_24 : He.DefD := ⟨("_law_value", none), "_law_value", "_law_value", defArgs (top 32), defBody (top 32), defScope (top 32), [], []⟩
def d_25 : He.DefD := ⟨("_law_row", none), "_law_row", "_law_row", defArgs (top 33), defBody (top 33), defScope (top 33), [], []⟩
def d_26 : He.DefD := ⟨("_law_free_ratio", none), "_law_free_ratio", "_law_free_ratio", defArgs (top 34), defBody (top 34), defScope (top 34), [], []⟩
def d_27 : He.DefD := ⟨("_law_worth", none), "_law_worth", "_law_worth", defArgs (top 35), defBody (top 35), defScope (top 35), [], []⟩
def d_28 : He.DefD := ⟨("_law_right", none), "_law_right", "_law_right", defArgs (top 36), defBody (top 36), defScope (top 36), [], []⟩
def d_29 : He.DefD := ⟨("law", none), "law", "law", defArgs (top 37), defBody (top 37), defScope (top 37), [], []⟩
def fn : List He.DefD := [d_0, d_1, d_2, d_3, d_4, d_5, d_6, d_7, d_8, d_9, d_10, d_11, d_12, d_13, d_14, d_15, d_16, d_17, d_18, d_19, d_20, d_21, d_22, d_23, d_24, d_25, d_26, d_27, d_28, d_29]
def i_0 : Fi := ⟨"is_whole", ["value"], ["value"], ⟨[], false⟩⟩
def i_1 : Fi := ⟨"are_wholes", ["value", "size", "number"], ["value", "size"], ⟨[], false⟩⟩
def i_2 : Fi := ⟨"is_ratio", ["value"], ["value"], ⟨[], false⟩⟩
def i_3 : Fi := ⟨"check_ratio", ["value"], ["value"], ⟨[], false⟩⟩
def i_4 : Fi := ⟨"ratio_of", ["upper", "lower", "divisor"], ["upper", "lower"], ⟨[], false⟩⟩
def i_5 : Fi := ⟨"is_polynomial", ["value", "number"], ["value"], ⟨[], false⟩⟩
def i_6 : Fi := ⟨"check_polynomial", ["value"], ["value"], ⟨[], false⟩⟩
def i_7 : Fi := ⟨"trimmed", ["numbers", "found"], ["numbers"], ⟨["found"], false⟩⟩
def i_8 : Fi := ⟨"summed", ["polynomial", "other", "many", "ones", "twos", "one", "two"], ["polynomial", "other"], ⟨[], false⟩⟩
def i_9 : Fi := ⟨"padded", ["polynomial", "many"], ["polynomial", "many"], ⟨[], false⟩⟩
def i_10 : Fi := ⟨"timed", ["polynomial", "other", "found", "at", "one", "by", "two"], ["polynomial", "other"], ⟨["found"], false⟩⟩
def i_11 : Fi := ⟨"number_at", ["polynomial", "ratio", "n", "m", "found", "power", "number"], ["polynomial", "ratio"], ⟨[], false⟩⟩
def i_12 : Fi := ⟨"added", ["polynomial", "other"], ["polynomial", "other"], ⟨[], false⟩⟩
def i_13 : Fi := ⟨"multiplied", ["polynomial", "other"], ["polynomial", "other"], ⟨[], false⟩⟩
def i_14 : Fi := ⟨"value_at", ["polynomial", "ratio", "below", "number"], ["polynomial", "ratio"], ⟨[], false⟩⟩
def i_15 : Fi := ⟨"_law_source", ["script", "turn", "own", "stirred", "cell"], ["script", "turn"], ⟨[], true⟩⟩
def i_16 : Fi := ⟨"_law_take", ["source", "size", "digit"], ["source", "size"], ⟨["source"], false⟩⟩
def i_17 : Fi := ⟨"_law_some", ["source", "things"], ["source", "things"], ⟨["source"], false⟩⟩
def i_18 : Fi := ⟨"_law_whole", ["source", "most"], ["source", "most"], ⟨["source"], false⟩⟩
def i_19 : Fi := ⟨"_law_common", ["one", "two"], ["one", "two"], ⟨[], false⟩⟩
def i_20 : Fi := ⟨"_law_ratio", ["one", "two", "part"], ["one", "two"], ⟨[], false⟩⟩
def i_21 : Fi := ⟨"_law_trim", ["row", "many", "turn"], ["row"], ⟨[], false⟩⟩
def i_22 : Fi := ⟨"_law_sum", ["one", "two", "many", "long", "first", "second", "k"], ["one", "two", "many"], ⟨[], false⟩⟩
def i_23 : Fi := ⟨"_law_times", ["one", "two", "found", "k", "i"], ["one", "two"], ⟨["found"], false⟩⟩
def i_24 : Fi := ⟨"_law_value", ["row", "one", "two", "found", "power", "each"], ["row", "one", "two"], ⟨[], false⟩⟩
def i_25 : Fi := ⟨"_law_row", ["source", "most", "deep", "found", "turn"], ["source", "most", "deep"], ⟨["source"], false⟩⟩
def i_26 : Fi := ⟨"_law_free_ratio", ["source", "most"], ["source", "most"], ⟨["source"], false⟩⟩
def i_27 : Fi := ⟨"_law_worth", ["row", "ratio", "below", "turn"], ["row", "ratio"], ⟨[], false⟩⟩
def i_28 : Fi := ⟨"_law_right", ["source", "one", "two", "first", "second", "third", "total", "product", "ratio", "row", "each"], ["source"], ⟨["source"], false⟩⟩
def i_29 : Fi := ⟨"law", ["script", "turn"], ["script"], ⟨[], false⟩⟩
def fis : List Fi := [i_0, i_1, i_2, i_3, i_4, i_5, i_6, i_7, i_8, i_9, i_10, i_11, i_12, i_13, i_14, i_15, i_16, i_17, i_18, i_19, i_20, i_21, i_22, i_23, i_24, i_25, i_26, i_27, i_28, i_29]
def cs : List (Str × PyData) := []
def ms : List (Str × Bf) := [("gcd", .gcd)]
def fa : List He.Fa := fis.map (fun fi => He.Fa.glo fi.x) ++ (blNames.map He.Fa.free ++ [])
def pt : List (Nat × Nat × List Str × List Nat) := [(0, 1, ([] : List Str), []), (1, 2, ([] : List Str), []), (2, 1, ([] : List Str), []), (3, 1, ([] : List Str), []), (4, 2, ([] : List Str), []), (5, 1, ([] : List Str), []), (6, 1, ([] : List Str), []), (7, 1, ([] : List Str), []), (8, 2, ([] : List Str), []), (9, 2, ([] : List Str), []), (10, 2, ([] : List Str), []), (11, 2, ([] : List Str), []), (12, 0, (["other", "polynomial"] : List Str), [1, 0]), (12, 2, ([] : List Str), []), (13, 1, (["other"] : List Str), [0]), (13, 2, ([] : List Str), []), (14, 2, ([] : List Str), []), (15, 2, ([] : List Str), []), (16, 2, ([] : List Str), []), (17, 2, ([] : List Str), []), (18, 2, ([] : List Str), []), (19, 2, ([] : List Str), []), (20, 2, ([] : List Str), []), (21, 1, ([] : List Str), []), (22, 3, ([] : List Str), []), (23, 2, ([] : List Str), []), (24, 3, ([] : List Str), []), (25, 3, ([] : List Str), []), (26, 2, ([] : List Str), []), (27, 2, ([] : List Str), []), (28, 1, ([] : List Str), []), (29, 1, ([] : List Str), [])]
def c0 : Sc := ⟨[], default, fun _ => true, fis.map (·.x), cs, ms, pt⟩
def loose0 : List Str := ["__name__", "SteamError", "InvalidRatio", "InvalidPolynomial", "is_whole", "are_wholes", "is_ratio", "check_ratio", "ratio_of", "is_polynomial", "check_polynomial", "trimmed", "summed", "padded", "timed", "number_at", "added", "multiplied", "value_at", "_law_source", "_law_take", "_law_some", "_law_whole", "_law_common", "_law_ratio", "_law_trim", "_law_sum", "_law_times", "_law_value", "_law_row"]
def loose1 : List Str := ["_law_free_ratio", "_law_worth", "_law_right"]
def loose : List Str := loose0 ++ loose1
abbrev R : PySem.W.OpenRow := PySem.W.OpenLaw.row PySem.Challenge.rw_steamlinks_k34_whole_polynomials_added_a
abbrev hk : PySem.W.Hook := hookE 2 fa fn cs ms
def obs (s : PySem.W.SharedT) : AlE := obE 2 fa fn cs ms s
theorem obs_eq (s : PySem.W.SharedT) : obs s = hk.obs s.abs := obE_eq _ _ _ _ _ s
section
open HandSHeadRun PySem.W
/-- what is seen of a run, put together -/
theorem join {X : Option (Shared × SharedT)} {β : Type} {look : Shared × SharedT → Bool} {seen : Shared × SharedT → β} {g : β} {n : Nat} {fa : List He.Fa} {fn : List He.DefD} {cs : List (Str × D)} {ms : List (Str × Bf)}
    (ha : X.map (fun x => (look x, seen x)) = some (true, g))
    (hb : X.map (fun x => ((exK cs ms (He.frG (HandSHeadRun.getT x.2) (He.asD (HandSHeadRun.getT x.2) n)), fa.all fun f => f.ok (He.frG (HandSHeadRun.getT x.2) (He.asD (HandSHeadRun.getT x.2) n))), fn.all fun d => d.ok (He.frG (HandSHeadRun.getT x.2) (He.asD (HandSHeadRun.getT x.2) n)), fn.map fun d => He.fnW (He.frG (HandSHeadRun.getT x.2) (He.asD (HandSHeadRun.getT x.2) n)) d.at_)) = some ((true, true), true, fn.map He.DefD.val))
    : X.map (fun x => (look x, seen x, obE n fa fn cs ms x.2)) = some (true, g, (true, He.valD fn)) := by
  cases X with
  | none => cases ha
  | some x =>
    simp only [Option.map_some, Option.some.injEq, Prod.mk.injEq] at ha hb ⊢
    refine ⟨ha.1, ha.2, ?_⟩
    unfold obE He.obsDG He.obsD He.valD
    rw [hb.1.1, hb.1.2, hb.2.1, hb.2.2]
    rfl
theorem run_a (w : World) : (HandSHeadRun.wholeF (fun p => stepQ (denQ tabQ) p w) HandSHeadRun.fenceQ 40000 R.prog).map (fun x => (looksF R.prog x.1.heap x.2.abs, seenQ (PySem.W.view R.prog [0, 37]) loose (importedModules R.prog.main.body) (fun s => xlAt (PySem.W.view R.prog [0, 37]) [] s && recOk R.toRowW.records s) x.2.abs)) = some (true, openGood (PySem.W.view R.prog [0, 37]) loose) := by kernel_rfl
theorem run_b (w : World) : (HandSHeadRun.wholeF (fun p => stepQ (denQ tabQ) p w) HandSHeadRun.fenceQ 40000 R.prog).map (fun x => ((exK cs ms (He.frG (HandSHeadRun.getT x.2) (He.asD (HandSHeadRun.getT x.2) 2)), fa.all fun f => f.ok (He.frG (HandSHeadRun.getT x.2) (He.asD (HandSHeadRun.getT x.2) 2))), fn.all fun d => d.ok (He.frG (HandSHeadRun.getT x.2) (He.asD (HandSHeadRun.getT x.2) 2)), fn.map fun d => He.fnW (He.frG (HandSHeadRun.getT x.2) (He.asD (HandSHeadRun.getT x.2) 2)) d.at_)) = some ((true, true), true, fn.map He.DefD.val) := by kernel_rfl
end
theorem run (w : World) : HandSHeadRun.RunEqI R (PySem.W.view R.prog [0, 37]) hk obs 40000 loose w := join (run_a w) (run_b w)
theorem b_0 {K : PySem.W.Frag} (f : Addr) (fd : FuncData) (F : FunD K d_0.name d_0.qual d_0.params d_0.body d_0.scope (d_0.dvs K) (d_0.kws K) f fd) : Bnd K c0 0 fd i_0.ps := by
  refine Bnd.of (l := [(0, 1, ([] : List Str), [])]) (by kernel_rfl) ?_
  intro p hp
  simp only [List.mem_cons, List.not_mem_nil, or_false] at hp
  rcases hp with rfl
  · exact bnd_one F fun _ _ _ _ _ _ us ws h1 h2 => match us, ws, h1, h2 with | [_], [], _, _ => rfl
theorem b_1 {K : PySem.W.Frag} (f : Addr) (fd : FuncData) (F : FunD K d_1.name d_1.qual d_1.params d_1.body d_1.scope (d_1.dvs K) (d_1.kws K) f fd) : Bnd K c0 1 fd i_1.ps := by
  refine Bnd.of (l := [(1, 2, ([] : List Str), [])]) (by kernel_rfl) ?_
  intro p hp
  simp only [List.mem_cons, List.not_mem_nil, or_false] at hp
  rcases hp with rfl
  · exact bnd_one F fun _ _ _ _ _ _ us ws h1 h2 => match us, ws, h1, h2 with | [_, _], [], _, _ => rfl
theorem b_2 {K : PySem.W.Frag} (f : Addr) (fd : FuncData) (F : FunD K d_2.name d_2.qual d_2.params d_2.body d_2.scope (d_2.dvs K) (d_2.kws K) f fd) : Bnd K c0 2 fd i_2.ps := by
  refine Bnd.of (l := [(2, 1, ([] : List Str), [])]) (by kernel_rfl) ?_
  intro p hp
  simp only [List.mem_cons, List.not_mem_nil, or_false] at hp
  rcases hp with rfl
  · exact bnd_one F fun _ _ _ _ _ _ us ws h1 h2 => match us, ws, h1, h2 with | [_], [], _, _ => rfl
theorem b_3 {K : PySem.W.Frag} (f : Addr) (fd : FuncData) (F : FunD K d_3.name d_3.qual d_3.params d_3.body d_3.scope (d_3.dvs K) (d_3.kws K) f fd) : Bnd K c0 3 fd i_3.ps := by
  refine Bnd.of (l := [(3, 1, ([] : List Str), [])]) (by kernel_rfl) ?_
  intro p hp
  simp only [List.mem_cons, List.not_mem_nil, or_false] at hp
  rcases hp with rfl
  · exact bnd_one F fun _ _ _ _ _ _ us ws h1 h2 => match us, ws, h1, h2 with | [_], [], _, _ => rfl
theorem b_4 {K : PySem.W.Frag} (f : Addr) (fd : FuncData) (F : FunD K d_4.name d_4.qual d_4.params d_4.body d_4.scope (d_4.dvs K) (d_4.kws K) f fd) : Bnd K c0 4 fd i_4.ps := by
  refine Bnd.of (l := [(4, 2, ([] : List Str), [])]) (by kernel_rfl) ?_
  intro p hp
  simp only [List.mem_cons, List.not_mem_nil, or_false] at hp
  rcases hp with rfl
  · exact bnd_one F fun _ _ _ _ _ _ us ws h1 h2 => match us, ws, h1, h2 with | [_, _], [], _, _ => rfl
theorem b_5 {K : PySem.W.Frag} (f : Addr) (fd : FuncData) (F : FunD K d_5.name d_5.qual d_5.params d_5.body d_5.scope (d_5.dvs K) (d_5.kws K) f fd) : Bnd K c0 5 fd i_5.ps := by
  refine Bnd.of (l := [(5, 1, ([] : List Str), [])]) (by kernel_rfl) ?_
  intro p hp
  simp only [List.mem_cons, List.not_mem_nil, or_false] at hp
  rcases hp with rfl
  · exact bnd_one F fun _ _ _ _ _ _ us ws h1 h2 => match us, ws, h1, h2 with | [_], [], _, _ => rfl
theorem b_6 {K : PySem.W.Frag} (f : Addr) (fd : FuncData) (F : FunD K d_6.name d_6.qual d_6.params d_6.body d_6.scope (d_6.dvs K) (d_6.kws K) f fd) : Bnd K c0 6 fd i_6.ps := by
  refine Bnd.of (l := [(6, 1, ([] : List Str), [])]) (by kernel_rfl) ?_
  intro p hp
  simp only [List.mem_cons, List.not_mem_nil, or_false] at hp
  rcases hp with rfl
  · exact bnd_one F fun _ _ _ _ _ _ us ws h1 h2 => match us, ws, h1, h2 with | [_], [], _, _ => rfl
theorem b_7 {K : PySem.W.Frag} (f : Addr) (fd : FuncData) (F : FunD K d_7.name d_7.qual d_7.params d_7.body d_7.scope (d_7.dvs K) (d_7.kws K) f fd) : Bnd K c0 7 fd i_7.ps := by
  refine Bnd.of (l := [(7, 1, ([] : List Str), [])]) (by kernel_rfl) ?_
  intro p hp
  simp only [List.mem_cons, List.not_mem_nil, or_false] at hp
  rcases hp with rfl
  · exact bnd_one F fun _ _ _ _ _ _ us ws h1 h2 => match us, ws, h1, h2 with | [_], [], _, _ => rfl
theorem b_8 {K : PySem.W.Frag} (f : Addr) (fd : FuncData) (F : FunD K d_8.name d_8.qual d_8.params d_8.body d_8.scope (d_8.dvs K) (d_8.kws K) f fd) : Bnd K c0 8 fd i_8.ps := by
  refine Bnd.of (l := [(8, 2, ([] : List Str), [])]) (by kernel_rfl) ?_
  intro p hp
  simp only [List.mem_cons, List.not_mem_nil, or_false] at hp
  rcases hp with rfl
  · exact bnd_one F fun _ _ _ _ _ _ us ws h1 h2 => match us, ws, h1, h2 with | [_, _], [], _, _ => rfl
theorem b_9 {K : PySem.W.Frag} (f : Addr) (fd : FuncData) (F : FunD K d_9.name d_9.qual d_9.params d_9.body d_9.scope (d_9.dvs K) (d_9.kws K) f fd) : Bnd K c0 9 fd i_9.ps := by
  refine Bnd.of (l := [(9, 2, ([] : List Str), [])]) (by kernel_rfl) ?_
  intro p hp
  simp only [List.mem_cons, List.not_mem_nil, or_false] at hp
  rcases hp with rfl
  · exact bnd_one F fun _ _ _ _ _ _ us ws h1 h2 => match us, ws, h1, h2 with | [_, _], [], _, _ => rfl
theorem b_10 {K : PySem.W.Frag} (f : Addr) (fd : FuncData) (F : FunD K d_10.name d_10.qual d_10.params d_10.body d_10.scope (d_10.dvs K) (d_10.kws K) f fd) : Bnd K c0 10 fd i_10.ps := by
  refine Bnd.of (l := [(10, 2, ([] : List Str), [])]) (by kernel_rfl) ?_
  intro p hp
  simp only [List.mem_cons, List.not_mem_nil, or_false] at hp
  rcases hp with rfl
  · exact bnd_one F fun _ _ _ _ _ _ us ws h1 h2 => match us, ws, h1, h2 with | [_, _], [], _, _ => rfl
theorem b_11 {K : PySem.W.Frag} (f : Addr) (fd : FuncData) (F : FunD K d_11.name d_11.qual d_11.params d_11.body d_11.scope (d_11.dvs K) (d_11.kws K) f fd) : Bnd K c0 11 fd i_11.ps := by
  refine Bnd.of (l := [(11, 2, ([] : List Str), [])]) (by kernel_rfl) ?_
  intro p hp
  simp only [List.mem_cons, List.not_mem_nil, or_false] at hp
  rcases hp with rfl
  · exact bnd_one F fun _ _ _ _ _ _ us ws h1 h2 => match us, ws, h1, h2 with | [_, _], [], _, _ => rfl
theorem b_12 {K : PySem.W.Frag} (f : Addr) (fd : FuncData) (F : FunD K d_12.name d_12.qual d_12.params d_12.body d_12.scope (d_12.dvs K) (d_12.kws K) f fd) : Bnd K c0 12 fd i_12.ps := by
  refine Bnd.of (l := [(12, 0, (["other", "polynomial"] : List Str), [1, 0]), (12, 2, ([] : List Str), [])]) (by kernel_rfl) ?_
  intro p hp
  simp only [List.mem_cons, List.not_mem_nil, or_false] at hp
  rcases hp with rfl | rfl
  · exact bnd_one F fun _ _ _ _ _ _ us ws h1 h2 => match us, ws, h1, h2 with | [], [_, _], _, _ => rfl
  · exact bnd_one F fun _ _ _ _ _ _ us ws h1 h2 => match us, ws, h1, h2 with | [_, _], [], _, _ => rfl
theorem b_13 {K : PySem.W.Frag} (f : Addr) (fd : FuncData) (F : FunD K d_13.name d_13.qual d_13.params d_13.body d_13.scope (d_13.dvs K) (d_13.kws K) f fd) : Bnd K c0 13 fd i_13.ps := by
  refine Bnd.of (l := [(13, 1, (["other"] : List Str), [0]), (13, 2, ([] : List Str), [])]) (by kernel_rfl) ?_
  intro p hp
  simp only [List.mem_cons, List.not_mem_nil, or_false] at hp
  rcases hp with rfl | rfl
  · exact bnd_one F fun _ _ _ _ _ _ us ws h1 h2 => match us, ws, h1, h2 with | [_], [_], _, _ => rfl
  · exact bnd_one F fun _ _ _ _ _ _ us ws h1 h2 => match us, ws, h1, h2 with | [_, _], [], _, _ => rfl
theorem b_14 {K : PySem.W.Frag} (f : Addr) (fd : FuncData) (F : FunD K d_14.name d_14.qual d_14.params d_14.body d_14.scope (d_14.dvs K) (d_14.kws K) f fd) : Bnd K c0 14 fd i_14.ps := by
  refine Bnd.of (l := [(14, 2, ([] : List Str), [])]) (by kernel_rfl) ?_
  intro p hp
  simp only [List.mem_cons, List.not_mem_nil, or_false] at hp
  rcases hp with rfl
  · exact bnd_one F fun _ _ _ _ _ _ us ws h1 h2 => match us, ws, h1, h2 with | [_, _], [], _, _ => rfl
theorem b_15 {K : PySem.W.Frag} (f : Addr) (fd : FuncData) (F : FunD K d_15.name d_15.qual d_15.params d_15.body d_15.scope (d_15.dvs K) (d_15.kws K) f fd) : Bnd K c0 15 fd i_15.ps := by
  refine Bnd.of (l := [(15, 2, ([] : List Str), [])]) (by kernel_rfl) ?_
  intro p hp
  simp only [List.mem_cons, List.not_mem_nil, or_false] at hp
  rcases hp with rfl
  · exact bnd_one F fun _ _ _ _ _ _ us ws h1 h2 => match us, ws, h1, h2 with | [_, _], [], _, _ => rfl
theorem b_16 {K : PySem.W.Frag} (f : Addr) (fd : FuncData) (F : FunD K d_16.name d_16.qual d_16.params d_16.body d_16.scope (d_16.dvs K) (d_16.kws K) f fd) : Bnd K c0 16 fd i_16.ps := by
  refine Bnd.of (l := [(16, 2, ([] : List Str), [])]) (by kernel_rfl) ?_
  intro p hp
  simp only [List.mem_cons, List.not_mem_nil, or_false] at hp
  rcases hp with rfl
  · exact bnd_one F fun _ _ _ _ _ _ us ws h1 h2 => match us, ws, h1, h2 with | [_, _], [], _, _ => rfl
theorem b_17 {K : PySem.W.Frag} (f : Addr) (fd : FuncData) (F : FunD K d_17.name d_17.qual d_17.params d_17.body d_17.scope (d_17.dvs K) (d_17.kws K) f fd) : Bnd K c0 17 fd i_17.ps := by
  refine Bnd.of (l := [(17, 2, ([] : List Str), [])]) (by kernel_rfl) ?_
  intro p hp
  simp only [List.mem_cons, List.not_mem_nil, or_false] at hp
  rcases hp with rfl
  · exact bnd_one F fun _ _ _ _ _ _ us ws h1 h2 => match us, ws, h1, h2 with | [_, _], [], _, _ => rfl
theorem b_18 {K : PySem.W.Frag} (f : Addr) (fd : FuncData) (F : FunD K d_18.name d_18.qual d_18.params d_18.body d_18.scope (d_18.dvs K) (d_18.kws K) f fd) : Bnd K c0 18 fd i_18.ps := by
  refine Bnd.of (l := [(18, 2, ([] : List Str), [])]) (by kernel_rfl) ?_
  intro p hp
  simp only [List.mem_cons, List.not_mem_nil, or_false] at hp
  rcases hp with rfl
  · exact bnd_one F fun _ _ _ _ _ _ us ws h1 h2 => match us, ws, h1, h2 with | [_, _], [], _, _ => rfl
theorem b_19 {K : PySem.W.Frag} (f : Addr) (fd : FuncData) (F : FunD K d_19.name d_19.qual d_19.params d_19.body d_19.scope (d_19.dvs K) (d_19.kws K) f fd) : Bnd K c0 19 fd i_19.ps := by
  refine Bnd.of (l := [(19, 2, ([] : List Str), [])]) (by kernel_rfl) ?_
  intro p hp
  simp only [List.mem_cons, List.not_mem_nil, or_false] at hp
  rcases hp with rfl
  · exact bnd_one F fun _ _ _ _ _ _ us ws h1 h2 => match us, ws, h1, h2 with | [_, _], [], _, _ => rfl
theorem b_20 {K : PySem.W.Frag} (f : Addr) (fd : FuncData) (F : FunD K d_20.name d_20.qual d_20.params d_20.body d_20.scope (d_20.dvs K) (d_20.kws K) f fd) : Bnd K c0 20 fd i_20.ps := by
  refine Bnd.of (l := [(20, 2, ([] : List Str), [])]) (by kernel_rfl) ?_
  intro p hp
  simp only [List.mem_cons, List.not_mem_nil, or_false] at hp
  rcases hp with rfl
  · exact bnd_one F fun _ _ _ _ _ _ us ws h1 h2 => match us, ws, h1, h2 with | [_, _], [], _, _ => rfl
theorem b_21 {K : PySem.W.Frag} (f : Addr) (fd : FuncData) (F : FunD K d_21.name d_21.qual d_21.params d_21.body d_21.scope (d_21.dvs K) (d_21.kws K) f fd) : Bnd K c0 21 fd i_21.ps := by
  refine Bnd.of (l := [(21, 1, ([] : List Str), [])]) (by kernel_rfl) ?_
  intro p hp
  simp only [List.mem_cons, List.not_mem_nil, or_false] at hp
  rcases hp with rfl
  · exact bnd_one F fun _ _ _ _ _ _ us ws h1 h2 => match us, ws, h1, h2 with | [_], [], _, _ => rfl
theorem b_22 {K : PySem.W.Frag} (f : Addr) (fd : FuncData) (F : FunD K d_22.name d_22.qual d_22.params d_22.body d_22.scope (d_22.dvs K) (d_22.kws K) f fd) : Bnd K c0 22 fd i_22.ps := by
  refine Bnd.of (l := [(22, 3, ([] : List Str), [])]) (by kernel_rfl) ?_
  intro p hp
  simp only [List.mem_cons, List.not_mem_nil, or_false] at hp
  rcases hp with rfl
  · exact bnd_one F fun _ _ _ _ _ _ us ws h1 h2 => match us, ws, h1, h2 with | [_, _, _], [], _, _ => rfl
theorem b_23 {K : PySem.W.Frag} (f : Addr) (fd : FuncData) (F : FunD K d_23.name d_23.qual d_23.params d_23.body d_23.scope (d_23.dvs K) (d_23.kws K) f fd) : Bnd K c0 23 fd i_23.ps := by
  refine Bnd.of (l := [(23, 2, ([] : List Str), [])]) (by kernel_rfl) ?_
  intro p hp
  simp only [List.mem_cons, List.not_mem_nil, or_false] at hp
  rcases hp with rfl
  · exact bnd_one F fun _ _ _ _ _ _ us ws h1 h2 => match us, ws, h1, h2 with | [_, _], [], _, _ => rfl
theorem b_24 {K : PySem.W.Frag} (f : Addr) (fd : FuncData) (F : FunD K d_24.name d_24.qual d_24.params d_24.body d_24.scope (d_24.dvs K) (d_24.kws K) f fd) : Bnd K c0 24 fd i_24.ps := by
  refine Bnd.of (l := [(24, 3, ([] : List Str), [])]) (by kernel_rfl) ?_
  intro p hp
  simp only [List.mem_cons, List.not_mem_nil, or_false] at hp
  rcases hp with rfl
  · exact bnd_one F fun _ _ _ _ _ _ us ws h1 h2 => match us, ws, h1, h2 with | [_, _, _], [], _, _ => rfl
theorem b_25 {K : PySem.W.Frag} (f : Addr) (fd : FuncData) (F : FunD K d_25.name d_25.qual d_25.params d_25.body d_25.scope (d_25.dvs K) (d_25.kws K) f fd) : Bnd K c0 25 fd i_25.ps := by
  refine Bnd.of (l := [(25, 3, ([] : List Str), [])]) (by kernel_rfl) ?_
  intro p hp
  simp only [List.mem_cons, List.not_mem_nil, or_false] at hp
  rcases hp with rfl
  · exact bnd_one F fun _ _ _ _ _ _ us ws h1 h2 => match us, ws, h1, h2 with | [_, _, _], [], _, _ => rfl
theorem b_26 {K : PySem.W.Frag} (f : Addr) (fd : FuncData) (F : FunD K d_26.name d_26.qual d_26.params d_26.body d_26.scope (d_26.dvs K) (d_26.kws K) f fd) : Bnd K c0 26 fd i_26.ps := by
  refine Bnd.of (l := [(26, 2, ([] : List Str), [])]) (by kernel_rfl) ?_
  intro p hp
  simp only [List.mem_cons, List.not_mem_nil, or_false] at hp
  rcases hp with rfl
  · exact bnd_one F fun _ _ _ _ _ _ us ws h1 h2 => match us, ws, h1, h2 with | [_, _], [], _, _ => rfl
theorem b_27 {K : PySem.W.Frag} (f : Addr) (fd : FuncData) (F : FunD K d_27.name d_27.qual d_27.params d_27.body d_27.scope (d_27.dvs K) (d_27.kws K) f fd) : Bnd K c0 27 fd i_27.ps := by
  refine Bnd.of (l := [(27, 2, ([] : List Str), [])]) (by kernel_rfl) ?_
  intro p hp
  simp only [List.mem_cons, List.not_mem_nil, or_false] at hp
  rcases hp with rfl
  · exact bnd_one F fun _ _ _ _ _ _ us ws h1 h2 => match us, ws, h1, h2 with | [_, _], [], _, _ => rfl
theorem b_28 {K : PySem.W.Frag} (f : Addr) (fd : FuncData) (F : FunD K d_28.name d_28.qual d_28.params d_28.body d_28.scope (d_28.dvs K) (d_28.kws K) f fd) : Bnd K c0 28 fd i_28.ps := by
  refine Bnd.of (l := [(28, 1, ([] : List Str), [])]) (by kernel_rfl) ?_
  intro p hp
  simp only [List.mem_cons, List.not_mem_nil, or_false] at hp
  rcases hp with rfl
  · exact bnd_one F fun _ _ _ _ _ _ us ws h1 h2 => match us, ws, h1, h2 with | [_], [], _, _ => rfl
theorem b_29 {K : PySem.W.Frag} (f : Addr) (fd : FuncData) (F : FunD K d_29.name d_29.qual d_29.params d_29.body d_29.scope (d_29.dvs K) (d_29.kws K) f fd) : Bnd K c0 29 fd i_29.ps := by
  refine Bnd.of (l := [(29, 1, ([] : List Str), [])]) (by kernel_rfl) ?_
  intro p hp
  simp only [List.mem_cons, List.not_mem_nil, or_false] at hp
  rcases hp with rfl
  · exact bnd_one F fun _ _ _ _ _ _ us ws h1 h2 => match us, ws, h1, h2 with | [_], [], _, _ => rfl
theorem bl (K : PySem.W.Frag) : BndL K c0 0 fis fn := ⟨b_0, b_1, b_2, b_3, b_4, b_5, b_6, b_7, b_8, b_9, b_10, b_11, b_12, b_13, b_14, b_15, b_16, b_17, b_18, b_19, b_20, b_21, b_22, b_23, b_24, b_25, b_26, b_27, b_28, b_29, trivial⟩
theorem okt : okT fis fn = true := by kernel_rfl
def TT : Tab := mkT c0 fis fn
def c_0 : Sts := (.cons (.ret true (.and (.isi (.var 0) .int) (.not (.isi (.var 0) .bool)))) .nil)
def c_1 : Sts := (.cons (.ret true (.and (.isi (.var 0) .tuple) (.and (.cmp .Eq (.blt .len (.cons (.var 0) .nil)) (.var 1)) (.blt .all (.cons (.comp false [2] (.name 2) (.ex (.var 0)) .nil (.call 0 (.cons (.var 2) .nil))) .nil))))) .nil)
def c_2 : Sts := (.cons (.ret true (.and (.call 1 (.cons (.var 0) (.cons (.con (.int 2)) .nil))) (.and (.cmp .Gt (.idx (.var 0) (.con (.int 1))) (.con (.int 0))) (.cmp .Eq (.blt .gcd (.cons (.idx (.var 0) (.con (.int 0))) (.cons (.idx (.var 0) (.con (.int 1))) .nil))) (.con (.int 1)))))) .nil)
def c_3 : Sts := (.cons (.ifs (.not (.call 2 (.cons (.var 0) .nil))) (.cons .dead .nil) .nil) .nil)
def c_4 : Sts := (.cons (.asg (.name 2) (.ite (.cmp .Gt (.var 1) (.con (.int 0))) (.blt .gcd (.cons (.var 0) (.cons (.var 1) .nil))) (.neg (.blt .gcd (.cons (.var 0) (.cons (.var 1) .nil)))))) (.cons (.ret true (.tup (.cons (.bin false .FloorDiv (.var 0) (.var 2)) (.cons (.bin false .FloorDiv (.var 1) (.var 2)) .nil)))) .nil))
def c_5 : Sts := (.cons (.ifs (.or (.not (.isi (.var 0) .tuple)) (.not (.blt .all (.cons (.comp false [1] (.name 1) (.ex (.var 0)) .nil (.call 0 (.cons (.var 1) .nil))) .nil)))) (.cons (.ret true (.con (.bool false))) .nil) .nil) (.cons (.ret true (.or (.cmp .Eq (.var 0) (.tup .nil)) (.cmp .NotEq (.idx (.var 0) (.neg (.con (.int 1)))) (.con (.int 0))))) .nil))
def c_6 : Sts := (.cons (.ifs (.not (.call 5 (.cons (.var 0) .nil))) (.cons .dead .nil) .nil) .nil)
def c_7_b0 : Sts := (.cons (.ex (.meth .pop (.var 1) .nil)) .nil)
def c_7 : Sts := (.cons (.asg (.name 1) (.blt (.list true) (.cons (.var 0) .nil))) (.cons (.whl (.and (.cmp .NotEq (.var 1) (.lst false .nil)) (.cmp .Eq (.idx (.var 1) (.neg (.con (.int 1)))) (.con (.int 0)))) c_7_b0) (.cons (.ret true (.blt .tuple (.cons (.var 1) .nil))) .nil)))
def c_8 : Sts := (.cons (.asg (.name 2) (.blt .max (.cons (.blt .len (.cons (.var 0) .nil)) (.cons (.blt .len (.cons (.var 1) .nil)) .nil)))) (.cons (.par [3, 4] (.cons (.call 9 (.cons (.var 0) (.cons (.var 2) .nil))) (.cons (.call 9 (.cons (.var 1) (.cons (.var 2) .nil))) .nil))) (.cons (.ret true (.call 7 (.cons (.comp false [5, 6] (.tup (.cons (.name 5) (.cons (.name 6) .nil))) (.zip (.var 3) (.var 4)) .nil (.bin false .Add (.var 5) (.var 6))) .nil))) .nil)))
def c_9 : Sts := (.cons (.ret true (.bin false .Add (.blt (.list false) (.cons (.var 0) .nil)) (.bin false .Mult (.lst false (.cons (.con (.int 0)) .nil)) (.bin false .Sub (.var 1) (.blt .len (.cons (.var 0) .nil)))))) .nil)
def c_10_b0 : Sts := (.cons (.augS (.var 2) (.bin false .Add (.var 3) (.var 5)) .Add (.bin false .Mult (.var 4) (.var 6))) .nil)
def c_10_b1 : Sts := (.cons (.for_ (.tup (.cons (.name 5) (.cons (.name 6) .nil))) (.enum (.var 1)) c_10_b0) .nil)
def c_10 : Sts := (.cons (.asg (.name 2) (.bin true .Mult (.lst false (.cons (.con (.int 0)) .nil)) (.bin false .Add (.blt .len (.cons (.var 0) .nil)) (.blt .len (.cons (.var 1) .nil))))) (.cons (.for_ (.tup (.cons (.name 3) (.cons (.name 4) .nil))) (.enum (.var 0)) c_10_b1) (.cons (.ret true (.call 7 (.cons (.var 2) .nil))) .nil)))
def c_11_b0 : Sts := (.cons (.asg (.name 4) (.bin false .Add (.bin false .Mult (.var 4) (.var 2)) (.bin false .Mult (.var 6) (.var 5)))) (.cons (.asg (.name 5) (.bin false .Mult (.var 5) (.var 3))) .nil))
def c_11 : Sts := (.cons (.asg (.tup (.cons (.name 2) (.cons (.name 3) .nil))) (.var 1)) (.cons (.asg (.tup (.cons (.name 4) (.cons (.name 5) .nil))) (.tup (.cons (.con (.int 0)) (.cons (.con (.int 1)) .nil)))) (.cons (.for_ (.name 6) (.rev (.var 0)) c_11_b0) (.cons (.ret true (.var 4)) .nil))))
def c_12 : Sts := (.cons (.ex (.call 6 (.cons (.var 0) .nil))) (.cons (.ex (.call 6 (.cons (.var 1) .nil))) (.cons (.ret true (.call 8 (.cons (.var 0) (.cons (.var 1) .nil)))) .nil)))
def c_13 : Sts := (.cons (.ex (.call 6 (.cons (.var 0) .nil))) (.cons (.ex (.call 6 (.cons (.var 1) .nil))) (.cons (.ret true (.call 10 (.cons (.var 0) (.cons (.var 1) .nil)))) .nil)))
def c_14_b0 : Sts := (.cons (.asg (.name 2) (.bin false .Mult (.var 2) (.idx (.var 1) (.con (.int 1))))) .nil)
def c_14 : Sts := (.cons (.ex (.call 6 (.cons (.var 0) .nil))) (.cons (.ex (.call 3 (.cons (.var 1) .nil))) (.cons (.asg (.name 2) (.con (.int 1))) (.cons (.for_ (.name 3) (.ex (.sl false (.var 0) (.some (.con (.int 1))) .none)) c_14_b0) (.cons (.ret true (.call 4 (.cons (.call 11 (.cons (.var 0) (.cons (.var 1) .nil))) (.cons (.var 2) .nil)))) .nil)))))
def c_15_b0 : Sts := (.cons (.asg (.name 3) (.bin false .Mod (.blt .int (.cons (.bin false .Add (.bin false .Add (.bin false .Mult (.var 3) (.con (.int 40014))) (.bin false .Mod (.blt .int (.cons (.var 4) .nil)) (.con (.int 2147483563)))) (.con (.int 7))) .nil)) (.con (.int 2147483563)))) .nil)
def c_15 : Sts := (.cons (.asg (.name 2) (.ite (.cmp .Lt (.var 1) (.blt .len (.cons (.var 0) .nil))) (.blt .int (.cons (.idx (.var 0) (.var 1)) .nil)) (.bin false .Add (.bin false .Add (.bin false .Mult (.con (.int 6007)) (.var 1)) (.bin false .Mult (.con (.int 89)) (.blt .len (.cons (.var 0) .nil)))) (.con (.int 23))))) (.cons (.asg (.name 3) (.bin false .Add (.con (.int 4241)) (.bin false .Mult (.con (.int 877)) (.var 1)))) (.cons (.for_ (.name 4) (.ex (.bin false .Add (.blt (.list false) (.cons (.var 0) .nil)) (.lst false (.cons (.var 2) .nil)))) c_15_b0) (.cons (.ret false (.lst true (.cons (.ite (.or (.cmp .Lt (.var 2) (.con (.int 0))) (.cmp .GtE (.var 2) (.bin false .Pow (.con (.int 10)) (.con (.int 18))))) (.blt .abs (.cons (.var 2) .nil)) (.con (.int 0))) (.cons (.var 3) (.cons (.con (.int 0)) .nil))))) .nil))))
def c_16 : Sts := (.cons (.ifs (.cmp .Gt (.idx (.var 0) (.con (.int 0))) (.con (.int 0))) (.cons (.asg (.name 2) (.bin false .Mod (.blt .int (.cons (.idx (.var 0) (.con (.int 0))) .nil)) (.var 1))) (.cons (.asg (.sub (.var 0) (.con (.int 0))) (.bin false .FloorDiv (.idx (.var 0) (.con (.int 0))) (.var 1))) (.cons (.ret true (.var 2)) .nil))) .nil) (.cons (.asg (.sub (.var 0) (.con (.int 2))) (.bin false .Add (.idx (.var 0) (.con (.int 2))) (.con (.int 1)))) (.cons (.asg (.sub (.var 0) (.con (.int 1))) (.bin false .Mod (.blt .int (.cons (.bin false .Add (.bin false .Add (.bin false .Mult (.idx (.var 0) (.con (.int 1))) (.con (.int 40692))) (.bin false .Mult (.con (.int 52774)) (.idx (.var 0) (.con (.int 2))))) (.con (.int 19))) .nil)) (.con (.int 2147483399)))) (.cons (.ret true (.bin false .Mod (.blt .int (.cons (.bin false .FloorDiv (.idx (.var 0) (.con (.int 1))) (.con (.int 97))) .nil)) (.var 1))) .nil))))
def c_17 : Sts := (.cons (.ret true (.idx (.var 1) (.call 16 (.cons (.var 0) (.cons (.blt .len (.cons (.var 1) .nil)) .nil))))) .nil)
def c_18 : Sts := (.cons (.ret true (.bin false .Sub (.call 16 (.cons (.var 0) (.cons (.bin false .Add (.bin false .Mult (.con (.int 2)) (.var 1)) (.con (.int 1))) .nil))) (.var 1))) .nil)
def c_19_b0 : Sts := (.cons (.par [0, 1] (.cons (.var 1) (.cons (.bin false .Mod (.blt .int (.cons (.var 0) .nil)) (.var 1)) .nil))) .nil)
def c_19 : Sts := (.cons (.par [0, 1] (.cons (.blt .abs (.cons (.var 0) .nil)) (.cons (.blt .abs (.cons (.var 1) .nil)) .nil))) (.cons (.whl (.cmp .Gt (.var 1) (.con (.int 0))) c_19_b0) (.cons (.ret true (.var 0)) .nil)))
def c_20 : Sts := (.cons (.asg (.name 2) (.call 19 (.cons (.var 0) (.cons (.var 1) .nil)))) (.cons (.asg (.name 2) (.ite (.cmp .Gt (.var 1) (.con (.int 0))) (.var 2) (.bin false .Sub (.con (.int 0)) (.var 2)))) (.cons (.ret true (.tup (.cons (.bin false .FloorDiv (.var 0) (.var 2)) (.cons (.bin false .FloorDiv (.var 1) (.var 2)) .nil)))) .nil)))
def c_21_b0 : Sts := (.cons (.ifs (.and (.cmp .Gt (.var 1) (.con (.int 0))) (.cmp .Eq (.idx (.var 0) (.bin false .Sub (.var 1) (.con (.int 1)))) (.con (.int 0)))) (.cons (.asg (.name 1) (.bin false .Sub (.var 1) (.con (.int 1)))) .nil) .nil) .nil)
def c_21 : Sts := (.cons (.asg (.name 1) (.blt .len (.cons (.var 0) .nil))) (.cons (.for_ (.name 2) (.range1 (.blt .len (.cons (.var 0) .nil))) c_21_b0) (.cons (.ret true (.blt (.list false) (.cons (.sl false (.var 0) .none (.some (.var 1))) .nil))) .nil)))
def c_22 : Sts := (.cons (.asg (.name 3) (.blt .max (.cons (.blt .len (.cons (.var 0) .nil)) (.cons (.blt .len (.cons (.var 1) .nil)) .nil)))) (.cons (.asg (.tup (.cons (.name 4) (.cons (.name 5) .nil))) (.tup (.cons (.bin false .Add (.blt (.list false) (.cons (.var 0) .nil)) (.bin false .Mult (.lst false (.cons (.con (.int 0)) .nil)) (.bin false .Sub (.var 3) (.blt .len (.cons (.var 0) .nil))))) (.cons (.bin false .Add (.blt (.list false) (.cons (.var 1) .nil)) (.bin false .Mult (.lst false (.cons (.con (.int 0)) .nil)) (.bin false .Sub (.var 3) (.blt .len (.cons (.var 1) .nil))))) .nil)))) (.cons (.ret true (.call 21 (.cons (.comp false [6] (.name 6) (.range1 (.var 3)) .nil (.bin false .Add (.idx (.var 4) (.var 6)) (.bin false .Mult (.var 2) (.idx (.var 5) (.var 6))))) .nil))) .nil)))
def c_23_b0 : Sts := (.cons (.asg (.sub (.var 2) (.bin false .Add (.var 3) (.var 4))) (.bin false .Add (.idx (.var 2) (.bin false .Add (.var 3) (.var 4))) (.bin false .Mult (.idx (.var 0) (.var 3)) (.idx (.var 1) (.var 4))))) .nil)
def c_23_b1 : Sts := (.cons (.for_ (.name 4) (.range1 (.blt .len (.cons (.var 1) .nil))) c_23_b0) .nil)
def c_23 : Sts := (.cons (.asg (.name 2) (.bin true .Mult (.lst false (.cons (.con (.int 0)) .nil)) (.bin false .Add (.blt .len (.cons (.var 0) .nil)) (.blt .len (.cons (.var 1) .nil))))) (.cons (.for_ (.name 3) (.range1 (.blt .len (.cons (.var 0) .nil))) c_23_b1) (.cons (.ret true (.call 21 (.cons (.var 2) .nil))) .nil)))
def c_24_b0 : Sts := (.cons (.asg (.name 3) (.bin false .Add (.bin false .Mult (.var 3) (.var 1)) (.bin false .Mult (.var 5) (.var 4)))) (.cons (.asg (.name 4) (.bin false .Mult (.var 4) (.var 2))) .nil))
def c_24 : Sts := (.cons (.asg (.tup (.cons (.name 3) (.cons (.name 4) .nil))) (.tup (.cons (.con (.int 0)) (.cons (.con (.int 1)) .nil)))) (.cons (.for_ (.name 5) (.ex (.op1 .rev (.var 0))) c_24_b0) (.cons (.ret true (.var 3)) .nil)))
def c_25 : Sts := (.cons (.asg (.name 3) (.comp false [4] (.name 4) (.range1 (.call 16 (.cons (.var 0) (.cons (.bin false .Add (.var 2) (.con (.int 1))) .nil)))) .nil (.call 17 (.cons (.var 0) (.cons (.lst false (.cons (.con (.int 0)) (.cons (.con (.int 1)) (.cons (.bin false .Sub (.con (.int 0)) (.con (.int 1))) (.cons (.call 18 (.cons (.var 0) (.cons (.con (.int 9)) .nil))) (.cons (.call 18 (.cons (.var 0) (.cons (.var 1) .nil))) .nil)))))) .nil))))) (.cons (.ret true (.call 21 (.cons (.var 3) .nil))) .nil))
def c_26 : Sts := (.cons (.ret true (.call 20 (.cons (.call 18 (.cons (.var 0) (.cons (.var 1) .nil))) (.cons (.bin false .Add (.con (.int 1)) (.call 16 (.cons (.var 0) (.cons (.var 1) .nil)))) .nil)))) .nil)
def c_27_b0 : Sts := (.cons (.asg (.name 2) (.bin false .Mult (.var 2) (.idx (.var 1) (.con (.int 1))))) .nil)
def c_27 : Sts := (.cons (.asg (.name 2) (.con (.int 1))) (.cons (.for_ (.name 3) (.range1 (.bin false .Sub (.blt .len (.cons (.var 0) .nil)) (.con (.int 1)))) c_27_b0) (.cons (.ret true (.call 20 (.cons (.call 24 (.cons (.var 0) (.cons (.idx (.var 1) (.con (.int 0))) (.cons (.idx (.var 1) (.con (.int 1))) .nil)))) (.cons (.var 2) .nil)))) .nil)))
def c_28_b0 : Sts := (.cons (.ifs (.cmp .NotEq (.blt .repr (.cons (.call 14 (.cons (.var 9) (.cons (.var 8) .nil))) .nil)) (.blt .repr (.cons (.call 27 (.cons (.blt (.list false) (.cons (.var 9) .nil)) (.cons (.var 8) .nil))) .nil))) (.cons (.ret true (.con (.bool false))) .nil) .nil) .nil)
def c_28_b1 : Sts := (.cons (.for_ (.name 9) (.ex (.lst false (.cons (.var 3) (.cons (.var 4) (.cons (.var 6) (.cons (.var 7) .nil)))))) c_28_b0) .nil)
def c_28 : Sts := (.cons (.par [1, 2] (.cons (.call 25 (.cons (.var 0) (.cons (.bin false .Pow (.con (.int 10)) (.con (.int 20))) (.cons (.con (.int 7)) .nil)))) (.cons (.call 25 (.cons (.var 0) (.cons (.con (.int 99)) (.cons (.con (.int 6)) .nil)))) .nil))) (.cons (.ifs (.cmp .Eq (.call 16 (.cons (.var 0) (.cons (.con (.int 4)) .nil))) (.con (.int 0))) (.cons (.asg (.name 2) (.call 22 (.cons (.comp false [10] (.name 10) (.ex (.var 1)) .nil (.bin false .Sub (.con (.int 0)) (.var 10))) (.cons (.call 25 (.cons (.var 0) (.cons (.con (.int 9)) (.cons (.con (.int 3)) .nil)))) (.cons (.con (.int 1)) .nil))))) .nil) .nil) (.cons (.par [3, 4, 5] (.cons (.blt .tuple (.cons (.var 1) .nil)) (.cons (.blt .tuple (.cons (.var 2) .nil)) (.cons (.blt .tuple (.cons (.call 25 (.cons (.var 0) (.cons (.con (.int 9)) (.cons (.con (.int 3)) .nil)))) .nil)) .nil)))) (.cons (.par [6, 7] (.cons (.call 12 (.cons (.var 3) (.cons (.var 4) .nil))) (.cons (.call 13 (.cons (.var 3) (.cons (.var 4) .nil))) .nil))) (.cons (.ifs (.or (.cmp .NotEq (.blt .repr (.cons (.var 6) .nil)) (.blt .repr (.cons (.blt .tuple (.cons (.call 22 (.cons (.var 1) (.cons (.var 2) (.cons (.con (.int 1)) .nil)))) .nil)) .nil))) (.cmp .NotEq (.blt .repr (.cons (.var 7) .nil)) (.blt .repr (.cons (.blt .tuple (.cons (.call 23 (.cons (.var 1) (.cons (.var 2) .nil))) .nil)) .nil)))) (.cons (.ret true (.con (.bool false))) .nil) .nil) (.cons (.ifs (.cmp .NotEq (.blt .repr (.cons (.callk 12 .nil [1, 0] (.cons (.var 5) (.cons (.var 6) .nil))) .nil)) (.blt .repr (.cons (.blt .tuple (.cons (.call 22 (.cons (.var 6) (.cons (.var 5) (.cons (.con (.int 1)) .nil)))) .nil)) .nil))) (.cons (.ret true (.con (.bool false))) .nil) .nil) (.cons (.ifs (.or (.cmp .NotEq (.blt .repr (.cons (.callk 13 (.cons (.var 6) .nil) [0] (.cons (.var 5) .nil)) .nil)) (.blt .repr (.cons (.blt .tuple (.cons (.call 23 (.cons (.var 6) (.cons (.var 5) .nil))) .nil)) .nil))) (.cmp .IsNot (.call 5 (.cons (.var 7) .nil)) (.con (.bool true)))) (.cons (.ret true (.con (.bool false))) .nil) .nil) (.cons (.for_ (.name 8) (.ex (.lst false (.cons (.call 26 (.cons (.var 0) (.cons (.con (.int 9)) .nil))) (.cons (.call 26 (.cons (.var 0) (.cons (.bin false .Pow (.con (.int 10)) (.con (.int 6))) .nil))) (.cons (.tup (.cons (.con (.int 0)) (.cons (.con (.int 1)) .nil))) (.cons (.tup (.cons (.con (.int 1)) (.cons (.con (.int 1)) .nil))) .nil)))))) c_28_b1) (.cons (.ret true (.cmp .Eq (.blt .repr (.cons (.lst false (.cons (.var 3) (.cons (.var 4) .nil))) .nil)) (.blt .repr (.cons (.lst false (.cons (.blt .tuple (.cons (.var 1) .nil)) (.cons (.blt .tuple (.cons (.var 2) .nil)) .nil))) .nil)))) .nil)))))))))
def c_29 : Sts := (.cons (.ret true (.blt .all (.cons (.comp false [1] (.name 1) (.range1 (.con (.int 3))) .nil (.call 28 (.cons (.call 15 (.cons (.var 0) (.cons (.var 1) .nil))) .nil))) .nil))) .nil)
/-- a table with these codes -/
class Tb (T : outParam Tab) : Prop where
  t_0 : T[0]? = some ⟨1, 1, c_0⟩
  t_1 : T[1]? = some ⟨2, 3, c_1⟩
  t_2 : T[2]? = some ⟨1, 1, c_2⟩
  t_3 : T[3]? = some ⟨1, 1, c_3⟩
  t_4 : T[4]? = some ⟨2, 3, c_4⟩
  t_5 : T[5]? = some ⟨1, 2, c_5⟩
  t_6 : T[6]? = some ⟨1, 1, c_6⟩
  t_7 : T[7]? = some ⟨1, 2, c_7⟩
  t_8 : T[8]? = some ⟨2, 7, c_8⟩
  t_9 : T[9]? = some ⟨2, 2, c_9⟩
  t_10 : T[10]? = some ⟨2, 7, c_10⟩
  t_11 : T[11]? = some ⟨2, 7, c_11⟩
  t_12 : T[12]? = some ⟨2, 2, c_12⟩
  t_13 : T[13]? = some ⟨2, 2, c_13⟩
  t_14 : T[14]? = some ⟨2, 4, c_14⟩
  t_15 : T[15]? = some ⟨2, 5, c_15⟩
  t_16 : T[16]? = some ⟨2, 3, c_16⟩
  t_17 : T[17]? = some ⟨2, 2, c_17⟩
  t_18 : T[18]? = some ⟨2, 2, c_18⟩
  t_19 : T[19]? = some ⟨2, 2, c_19⟩
  t_20 : T[20]? = some ⟨2, 3, c_20⟩
  t_21 : T[21]? = some ⟨1, 3, c_21⟩
  t_22 : T[22]? = some ⟨3, 7, c_22⟩
  t_23 : T[23]? = some ⟨2, 5, c_23⟩
  t_24 : T[24]? = some ⟨3, 6, c_24⟩
  t_25 : T[25]? = some ⟨3, 5, c_25⟩
  t_26 : T[26]? = some ⟨2, 2, c_26⟩
  t_27 : T[27]? = some ⟨2, 4, c_27⟩
  t_28 : T[28]? = some ⟨1, 11, c_28⟩
  t_29 : T[29]? = some ⟨1, 2, c_29⟩
theorem tt_0 : TT[0]? = some ⟨1, 1, c_0⟩ := by kernel_rfl
theorem tt_1 : TT[1]? = some ⟨2, 3, c_1⟩ := by kernel_rfl
theorem tt_2 : TT[2]? = some ⟨1, 1, c_2⟩ := by kernel_rfl
theorem tt_3 : TT[3]? = some ⟨1, 1, c_3⟩ := by kernel_rfl
theorem tt_4 : TT[4]? = some ⟨2, 3, c_4⟩ := by kernel_rfl
theorem tt_5 : TT[5]? = some ⟨1, 2, c_5⟩ := by kernel_rfl
theorem tt_6 : TT[6]? = some ⟨1, 1, c_6⟩ := by kernel_rfl
theorem tt_7 : TT[7]? = some ⟨1, 2, c_7⟩ := by kernel_rfl
theorem tt_8 : TT[8]? = some ⟨2, 7, c_8⟩ := by kernel_rfl
theorem tt_9 : TT[9]? = some ⟨2, 2, c_9⟩ := by kernel_rfl
theorem tt_10 : TT[10]? = some ⟨2, 7, c_10⟩ := by kernel_rfl
theorem tt_11 : TT[11]? = some ⟨2, 7, c_11⟩ := by kernel_rfl
theorem tt_12 : TT[12]? = some ⟨2, 2, c_12⟩ := by kernel_rfl
theorem tt_13 : TT[13]? = some ⟨2, 2, c_13⟩ := by kernel_rfl
theorem tt_14 : TT[14]? = some ⟨2, 4, c_14⟩ := by kernel_rfl
theorem tt_15 : TT[15]? = some ⟨2, 5, c_15⟩ := by kernel_rfl
theorem tt_16 : TT[16]? = some ⟨2, 3, c_16⟩ := by kernel_rfl
theorem tt_17 : TT[17]? = some ⟨2, 2, c_17⟩ := by kernel_rfl
theorem tt_18 : TT[18]? = some ⟨2, 2, c_18⟩ := by kernel_rfl
theorem tt_19 : TT[19]? = some ⟨2, 2, c_19⟩ := by kernel_rfl
theorem tt_20 : TT[20]? = some ⟨2, 3, c_20⟩ := by kernel_rfl
theorem tt_21 : TT[21]? = some ⟨1, 3, c_21⟩ := by kernel_rfl
theorem tt_22 : TT[22]? = some ⟨3, 7, c_22⟩ := by kernel_rfl
theorem tt_23 : TT[23]? = some ⟨2, 5, c_23⟩ := by kernel_rfl
theorem tt_24 : TT[24]? = some ⟨3, 6, c_24⟩ := by kernel_rfl
theorem tt_25 : TT[25]? = some ⟨3, 5, c_25⟩ := by kernel_rfl
theorem tt_26 : TT[26]? = some ⟨2, 2, c_26⟩ := by kernel_rfl
theorem tt_27 : TT[27]? = some ⟨2, 4, c_27⟩ := by kernel_rfl
theorem tt_28 : TT[28]? = some ⟨1, 11, c_28⟩ := by kernel_rfl
theorem tt_29 : TT[29]? = some ⟨1, 2, c_29⟩ := by kernel_rfl
theorem tb : Tb TT := ⟨tt_0, tt_1, tt_2, tt_3, tt_4, tt_5, tt_6, tt_7, tt_8, tt_9, tt_10, tt_11, tt_12, tt_13, tt_14, tt_15, tt_16, tt_17, tt_18, tt_19, tt_20, tt_21, tt_22, tt_23, tt_24, tt_25, tt_26, tt_27, tt_28, tt_29⟩
end My
/-! QA: angles in plain whole numbers. -/
namespace Ev
def sg (n : Int) : Int := if 0 < n then 1 else if n < 0 then -1 else 0
theorem sg_cases (n : Int) : sg n = 1 ∧ 0 < n ∨ sg n = -1 ∧ n < 0 ∨ sg n = 0 ∧ n = 0 := by
  unfold sg
  by_cases h : 0 < n
  · exact .inl ⟨if_pos h, h⟩
  · by_cases g : n < 0
    · exact .inr (.inl ⟨by rw [if_neg h, if_pos g], g⟩)
    · exact .inr (.inr ⟨by rw [if_neg h, if_neg g], by omega⟩)
theorem sg_sm (n : Int) : Sm 1 (sg n) := by
  rcases sg_cases n with h | h | h <;> (rw [h.1]; unfold Sm; decide)
theorem sg_neg (n : Int) : sg (-n) = -sg n := by
  rcases sg_cases n with h | h | h <;> rcases sg_cases (-n) with g | g | g <;> omega
/-- the sign of p + t * the root of s -/
def rsg (p t s : Int) : Int :=
  let a := sg p
  let b := if 0 < s then sg t else 0
  if a = 0 ∨ b = 0 ∨ a = b then (if a ≠ 0 then a else b) else a * sg (p * p - t * t * s)
/-- by the law -/
def rsl (p t s : Int) : Int :=
  let a := sg p
  let b := if 0 < s then sg t else 0
  if 0 ≤ a * b then (if a ≠ 0 then a else b) else a * sg (p * p - s * t * t)
theorem rsl_eq (p t s : Int) : rsl p t s = rsg p t s := by
  unfold rsl rsg
  simp only
  have e : p * p - s * t * t = p * p - t * t * s := by grind
  rw [e]
  have hb : ∀ b : Int, (b = 1 ∨ b = -1 ∨ b = 0) → (if 0 ≤ sg p * b then (if sg p ≠ 0 then sg p else b) else sg p * sg (p * p - t * t * s)) = (if sg p = 0 ∨ b = 0 ∨ sg p = b then (if sg p ≠ 0 then sg p else b) else sg p * sg (p * p - t * t * s)) := fun b h => by
    rcases sg_cases p with q | q | q <;> rcases h with h | h | h <;> simp [q.1, h]
  refine hb _ ?_
  by_cases h : 0 < s
  · rw [if_pos h]
    rcases sg_cases t with q | q | q <;> omega
  · rw [if_neg h]; omega
theorem rsg_neg (p t s : Int) : rsg (-p) (-t) s = - rsg p t s := by
  unfold rsg
  simp only [sg_neg]
  have e : -p * -p - -t * -t * s = p * p - t * t * s := by grind
  rw [e]
  by_cases h : 0 < s
  · simp only [if_pos h]
    rcases sg_cases p with q | q | q <;> rcases sg_cases t with r | r | r <;> simp [q.1, r.1]
  · simp only [if_neg h]
    rcases sg_cases p with q | q | q <;> simp [q.1]
theorem rsg_sm (p t s : Int) : Sm 1 (rsg p t s) := by
  unfold rsg
  by_cases h : 0 < s
  · simp only [if_pos h]
    rcases sg_cases p with q | q | q <;> rcases sg_cases t with r | r | r <;> rcases sg_cases (p * p - t * t * s) with u | u | u <;> simp [q.1, r.1, u.1, Sm]
  · simp only [if_neg h]
    rcases sg_cases p with q | q | q <;> simp [q.1, Sm]
theorem sq_nn (a : Int) : 0 ≤ a * a := by
  rcases Int.le_total 0 a with h | h
  · exact Int.mul_nonneg h h
  · exact Int.mul_nonneg_of_nonpos_of_nonpos h h
/-- the product of two vectors of a form -/
def pd (f a b c d : Int) : Int := a * c + f * b * d
def cr (a b c d : Int) : Int := a * d - b * c
theorem pd_sm {f a b c d : Int} {k l : Nat} (hf : Sm 2 f) (ha : Sm k a) (hb : Sm k b) (hc : Sm l c) (hd : Sm l d) : Sm (k + l + 3) (pd f a b c d) := by
  unfold pd
  refine Sm.mono (((ha.mul hc)).add ((hf.mul hb).mul hd)) ?_
  omega
theorem cr_sm {a b c d : Int} {k l : Nat} (ha : Sm k a) (hb : Sm k b) (hc : Sm l c) (hd : Sm l d) : Sm (k + l + 1) (cr a b c d) := by
  unfold cr
  refine Sm.mono ((ha.mul hd).sub (hb.mul hc)) ?_
  omega
/-- an angle -/
structure AngOk (f a b l : Int) : Prop where
  form : 1 ≤ f ∧ f ≤ 3
  co : gcL [a, b, l] = 1
  lev : l * l < pd f a b a b
def sqr (f a b l : Int) : Int := f * (pd f a b a b - l * l)
/-- the side of a vector and a level at an angle's place -/
def sd (f a b l x y m : Int) : Int := rsg (l * pd f a b x y - m * pd f a b a b) (-cr a b x y) (sqr f a b l)
theorem sqr_sm {f a b l : Int} {k : Nat} (hf : Sm 2 f) (ha : Sm k a) (hb : Sm k b) (hl : Sm k l) : Sm (k + k + 6) (sqr f a b l) := by
  unfold sqr
  refine Sm.mono (hf.mul ((pd_sm hf ha hb ha hb).sub (hl.mul hl))) ?_
  omega
theorem isqrt_step {n l h m : Int} (hm : m = (l + h).fdiv 2) (hl : 0 ≤ l) (hlh : 1 < h - l) : l < m ∧ m < h := by
  rw [Int.fdiv_eq_ediv_of_nonneg _ (by decide)] at hm
  omega
theorem fdiv_mul {g x : Int} (h : 0 < g) : (g * x).fdiv g = x := by rw [Int.fdiv_eq_ediv_of_nonneg _ (by omega), Int.mul_ediv_cancel_left _ (by omega)]
/-- what a list is, divided by its greatest common divisor -/
theorem red_spec {ns : List Int} (h : gcL ns ≠ 0) : 0 < gcL ns ∧ ns = (redL ns).map (fun x => gcL ns * x) ∧ gcL (redL ns) = 1 := by
  have nn := gcL_nn ns
  have g0 : 0 < gcL ns := by omega
  have e : ∀ x ∈ ns, gcL ns * x.fdiv (gcL ns) = x := fun x hx => by
    obtain ⟨y, hy⟩ := gcL_dvd hx
    have hy2 : x.fdiv (gcL ns) = y := by
      conv => lhs; arg 1; rw [hy]
      exact fdiv_mul g0
    rw [hy2, ← hy]
  refine ⟨g0, ?_, ?_⟩
  · unfold redL
    rw [List.map_map]
    conv => lhs; rw [← List.map_id ns]
    exact List.map_congr_left fun x hx => (e x hx).symm
  · have d : gcL ns * gcL (redL ns) ∣ gcL ns := gcL_greatest ns 0 (Int.dvd_zero _) fun x hx => by
      rw [← e x hx]
      exact Int.mul_dvd_mul_left _ (gcL_dvd (List.mem_map.mpr ⟨x, hx, rfl⟩))
    obtain ⟨y, hy⟩ := d
    have h1 : gcL (redL ns) * y = 1 := by
      have : gcL ns * (gcL (redL ns) * y) = gcL ns * 1 := by rw [← Int.mul_assoc, ← hy, Int.mul_one]
      exact Int.eq_of_mul_eq_mul_left (by omega) this
    have h2 : gcL (redL ns) ∣ 1 := ⟨y, h1.symm⟩
    have h3 := Int.le_of_dvd (by decide) h2
    have h4 := gcL_nn (redL ns)
    have h5 : gcL (redL ns) ≠ 0 := fun c => by rw [c] at h1; simp at h1
    omega
theorem red_sm {ns : List Int} {k : Nat} (h : gcL ns ≠ 0) {x : Int} (hx : x ∈ redL ns) (hk : ∀ y ∈ ns, Sm k y) : Sm k x := by
  obtain ⟨g0, e, _⟩ := red_spec h
  have hm : gcL ns * x ∈ ns := by
    have t : gcL ns * x ∈ (redL ns).map (fun x => gcL ns * x) := List.mem_map.mpr ⟨x, hx, rfl⟩
    rwa [← e] at t
  have := hk _ hm
  unfold Sm at *
  rw [Int.natAbs_mul] at this
  exact Nat.lt_of_le_of_lt (Nat.le_mul_of_pos_left _ (by omega)) this
theorem red_ang {f A B L : Int} (hf : 1 ≤ f ∧ f ≤ 3) (h : L * L < pd f A B A B) {k : Nat} (hA : Sm k A) (hB : Sm k B) (hL : Sm k L) : gcL [A, B, L] ≠ 0 ∧ ∃ a b l, redL [A, B, L] = [a, b, l] ∧ AngOk f a b l ∧ Sm k a ∧ Sm k b ∧ Sm k l := by
  have hg : gcL [A, B, L] ≠ 0 := fun c => by
    have z := gcL_zero c
    have a := z A (by simp)
    have b := z B (by simp)
    have l := z L (by simp)
    subst a b l
    simp [pd] at h
  refine ⟨hg, A.fdiv (gcL [A, B, L]), B.fdiv (gcL [A, B, L]), L.fdiv (gcL [A, B, L]), rfl, ?_⟩
  obtain ⟨g0, e, g1⟩ := red_spec hg
  have sm := fun x hx => red_sm (k := k) hg (x := x) hx (fun y hy => by
    simp only [List.mem_cons, List.not_mem_nil, or_false] at hy
    rcases hy with rfl | rfl | rfl
    · exact hA
    · exact hB
    · exact hL)
  have er : redL [A, B, L] = [A.fdiv (gcL [A, B, L]), B.fdiv (gcL [A, B, L]), L.fdiv (gcL [A, B, L])] := rfl
  rw [er] at e g1 sm
  generalize A.fdiv (gcL [A, B, L]) = a at *
  generalize B.fdiv (gcL [A, B, L]) = b at *
  generalize L.fdiv (gcL [A, B, L]) = l at *
  generalize gcL [A, B, L] = g at *
  simp only [List.map_cons, List.map_nil, List.cons.injEq, and_true] at e
  obtain ⟨e1, e2, e3⟩ := e
  refine ⟨⟨hf, g1, ?_⟩, sm a (by simp), sm b (by simp), sm l (by simp)⟩
  rw [e1, e2, e3] at h
  have k1 : g * l * (g * l) = g * g * (l * l) := by grind
  have k2 : pd f (g * a) (g * b) (g * a) (g * b) = g * g * pd f a b a b := by unfold pd; grind
  rw [k1, k2] at h
  exact Int.lt_of_mul_lt_mul_left h (Int.le_of_lt (Int.mul_pos g0 g0))
theorem pd_pos {f a b : Int} (hf : 1 ≤ f) (h : a ≠ 0 ∨ b ≠ 0) : 0 < pd f a b a b := by
  unfold pd
  have a1 := sq_nn a
  have a2 := sq_nn b
  have a3 : f * b * b = f * (b * b) := Int.mul_assoc _ _ _
  have a4 := Int.mul_le_mul_of_nonneg_right hf a2
  rw [Int.one_mul] at a4
  have pos : ∀ {x : Int}, x ≠ 0 → 0 < x * x := fun {x} h => by
    rcases Int.lt_or_gt_of_ne h with c | c
    · exact Int.mul_pos_of_neg_of_neg c c
    · exact Int.mul_pos c c
  rcases h with h | h
  · have := pos h
    omega
  · have := pos h
    omega
/-- a way of whole length -/
theorem whole_way {f p q : Int} (h : p * p - f * q * q ≠ 0 ∨ 2 * p * q ≠ 0) {k : Nat} (h1 : Sm k (p * p - f * q * q)) (h2 : Sm k (2 * p * q)) (hf : 1 ≤ f) : gcL [p * p - f * q * q, 2 * p * q] ≠ 0 ∧ ∃ w0 w1 wh, redL [p * p - f * q * q, 2 * p * q] = [w0, w1] ∧ 0 < wh ∧ pd f w0 w1 w0 w1 = wh * wh ∧ Sm k w0 ∧ Sm k w1 := by
  have hM : pd f (p * p - f * q * q) (2 * p * q) (p * p - f * q * q) (2 * p * q) = (p * p + f * q * q) * (p * p + f * q * q) := by unfold pd; grind
  generalize p * p - f * q * q = A at *
  generalize 2 * p * q = B at *
  generalize p * p + f * q * q = M at *
  have hg : gcL [A, B] ≠ 0 := fun c => by
    have z := gcL_zero c
    have a := z A (by simp)
    have b := z B (by simp)
    omega
  refine ⟨hg, A.fdiv (gcL [A, B]), B.fdiv (gcL [A, B]), (M.natAbs / (gcL [A, B]).natAbs : Nat), rfl, ?_⟩
  have hp := pd_pos hf h
  obtain ⟨g0, e, g1⟩ := red_spec hg
  have sm := fun x hx => red_sm (k := k) hg (x := x) hx (fun y hy => by
    simp only [List.mem_cons, List.not_mem_nil, or_false] at hy
    rcases hy with rfl | rfl
    · exact h1
    · exact h2)
  have er : redL [A, B] = [A.fdiv (gcL [A, B]), B.fdiv (gcL [A, B])] := rfl
  rw [er] at e g1 sm
  generalize A.fdiv (gcL [A, B]) = a at *
  generalize B.fdiv (gcL [A, B]) = b at *
  generalize gcL [A, B] = g at *
  simp only [List.map_cons, List.map_nil, List.cons.injEq, and_true] at e
  obtain ⟨e1, e2⟩ := e
  have k2 : pd f A B A B = g * g * pd f a b a b := by rw [e1, e2]; unfold pd; grind
  rw [hM] at k2 hp
  have dv : g.natAbs ^ 2 ∣ M.natAbs ^ 2 := by
    have : (M * M).natAbs = (g * g * pd f a b a b).natAbs := by rw [k2]
    rw [Int.natAbs_mul, Int.natAbs_mul, Int.natAbs_mul] at this
    rw [Nat.pow_two, Nat.pow_two, this]
    exact ⟨_, rfl⟩
  have dv2 : g.natAbs ∣ M.natAbs := (Nat.pow_dvd_pow_iff (by decide)).mp dv
  obtain ⟨w, hw⟩ := dv2
  have gn : 0 < g.natAbs := by omega
  have hq : M.natAbs / g.natAbs = w := by rw [hw, Nat.mul_div_cancel_left _ gn]
  rw [hq]
  have mm : M * M = (g * (w : Int)) * (g * (w : Int)) := by
    rw [← Int.natAbs_mul_self' M, hw]
    have : ((g.natAbs * w : Nat) : Int) = g * w := by
      rw [Int.natCast_mul]
      congr 1
      omega
    rw [this]
  have hw0 : 0 < (w : Int) := by
    by_cases c : w = 0
    · subst c
      rw [mm] at hp
      simp at hp
    · omega
  refine ⟨hw0, ?_, sm a (by simp), sm b (by simp)⟩
  rw [mm] at k2
  have k3 : g * g * pd f a b a b = g * g * ((w : Int) * w) := by rw [← k2]; grind
  exact Int.eq_of_mul_eq_mul_left (by have := Int.mul_pos g0 g0; omega) k3
theorem root_eq {r w : Int} (h0 : 0 ≤ r) (hw : 0 ≤ w) (h1 : r * r ≤ w * w) (h2 : w * w < (r + 1) * (r + 1)) : r = w := by
  have a : r ≤ w := by
    by_cases c : r ≤ w
    · exact c
    · have h3 := Int.mul_le_mul (show w + 1 ≤ r by omega) (show w + 1 ≤ r by omega) (by omega) h0
      have h4 : (w + 1) * (w + 1) = w * w + 2 * w + 1 := by grind
      omega
  have b : w < r + 1 := by
    by_cases c : w < r + 1
    · exact c
    · have := Int.mul_le_mul (show r + 1 ≤ w by omega) (show r + 1 ≤ w by omega) (by omega) hw
      omega
  omega
theorem root_sm {r v : Int} {k : Nat} (h0 : 0 ≤ r) (h1 : r * r ≤ v) (hv : Sm k v) : Sm k r := by
  by_cases c : r = 0
  · rw [c]; unfold Sm; exact Nat.pow_pos (by decide)
  · have h2 : r * 1 ≤ r * r := Int.mul_le_mul_of_nonneg_left (by omega) h0
    unfold Sm at *
    omega
theorem sg_pos {c x : Int} (h : 0 < c) : sg (c * x) = sg x := by
  rcases sg_cases x with q | q | q
  · have := Int.mul_pos h q.2
    rcases sg_cases (c * x) with r | r | r <;> omega
  · have := Int.mul_neg_of_pos_of_neg h q.2
    rcases sg_cases (c * x) with r | r | r <;> omega
  · rw [q.2, Int.mul_zero]
theorem sd_neg (f a b l x y m : Int) : sd f a b l (0 - x) (0 - y) (0 - m) = 0 - sd f a b l x y m := by
  unfold sd
  have e1 : l * pd f a b (0 - x) (0 - y) - (0 - m) * pd f a b a b = -(l * pd f a b x y - m * pd f a b a b) := by unfold pd; grind
  have e2 : -cr a b (0 - x) (0 - y) = -(-cr a b x y) := by unfold cr; grind
  rw [e1, e2, rsg_neg, Int.zero_sub]
theorem rsg_z (p s : Int) : rsg p 0 s = sg p := by
  unfold rsg
  have z : sg 0 = 0 := rfl
  simp only [z, ite_self]
  rcases sg_cases p with q | q | q <;> simp [q.1]
theorem sd_own (f a b l k : Int) : sd f a b l (k * a) (k * b) (k * l) = 0 := by
  unfold sd
  have e1 : l * pd f a b (k * a) (k * b) - k * l * pd f a b a b = 0 := by unfold pd; grind
  have e2 : -cr a b (k * a) (k * b) = 0 := by unfold cr; grind
  rw [e1, e2, rsg_z]
  rfl
theorem sd_at {f a b l : Int} (h : 0 < pd f a b a b) : sd f a b l a b (l + 1) = -1 ∧ sd f a b l a b (l - 1) = 1 := by
  unfold sd
  have e2 : -cr a b a b = 0 := by unfold cr; grind
  have e1 : l * pd f a b a b - (l + 1) * pd f a b a b = -pd f a b a b := by grind
  have e3 : l * pd f a b a b - (l - 1) * pd f a b a b = pd f a b a b := by grind
  rw [e1, e2, e3, rsg_z, rsg_z]
  constructor
  · rcases sg_cases (-pd f a b a b) with r | r | r <;> omega
  · rcases sg_cases (pd f a b a b) with r | r | r <;> omega
/-- the place of a way -/
theorem sd_way {f w0 w1 a b g x y m : Int} (hf : 1 ≤ f) (hg : 0 < g) (ha : -f * w1 = g * a) (hb : w0 = g * b) (hw : w0 ≠ 0 ∨ w1 ≠ 0) : sd f a b 0 x y m = rsg (pd f w0 w1 x y) (0 - m) (pd f w0 w1 w0 w1) := by
  have hS := pd_pos hf hw
  have k1 : g * g * pd f a b a b = f * pd f w0 w1 w0 w1 := by
    have : g * g * pd f a b a b = (g * a) * (g * a) + f * (g * b) * (g * b) := by unfold pd; grind
    rw [this, ← ha, ← hb]
    unfold pd
    grind
  have k2 : g * -cr a b x y = pd f w0 w1 x y := by
    have : g * -cr a b x y = g * b * x - g * a * y := by unfold cr; grind
    rw [this, ← ha, ← hb]
    unfold pd
    grind
  have fS : 0 < f * pd f w0 w1 w0 w1 := Int.mul_pos (by omega) hS
  have gg : 0 < g * g := Int.mul_pos hg hg
  have hN : 0 < pd f a b a b := by
    by_cases c : 0 < pd f a b a b
    · exact c
    · have := Int.mul_le_mul_of_nonneg_left (show pd f a b a b ≤ 0 by omega) (Int.le_of_lt gg)
      omega
  have hs : 0 < sqr f a b 0 := by
    unfold sqr
    simp only [Int.mul_zero, Int.sub_zero]
    exact Int.mul_pos (by omega) hN
  unfold sd
  have e0 : 0 * pd f a b x y - m * pd f a b a b = pd f a b a b * (0 - m) := by grind
  rw [e0]
  have q1 : sg (pd f a b a b * (0 - m)) = sg (0 - m) := sg_pos hN
  have q2 : sg (-cr a b x y) = sg (pd f w0 w1 x y) := by rw [← k2, sg_pos hg]
  have q3 : sg (pd f a b a b * (0 - m) * (pd f a b a b * (0 - m)) - -cr a b x y * -cr a b x y * sqr f a b 0) = - sg (pd f w0 w1 x y * pd f w0 w1 x y - (0 - m) * (0 - m) * pd f w0 w1 w0 w1) := by
    rw [← sg_neg, ← sg_pos (Int.mul_pos gg gg)]
    have e1 : g * g * (g * g) * (pd f a b a b * (0 - m) * (pd f a b a b * (0 - m)) - -cr a b x y * -cr a b x y * sqr f a b 0) = f * (f * pd f w0 w1 w0 w1) * -(pd f w0 w1 x y * pd f w0 w1 x y - (0 - m) * (0 - m) * pd f w0 w1 w0 w1) := by
      have : g * g * (g * g) * (pd f a b a b * (0 - m) * (pd f a b a b * (0 - m)) - -cr a b x y * -cr a b x y * sqr f a b 0) = (g * g * pd f a b a b) * (g * g * pd f a b a b) * (m * m) - (g * -cr a b x y) * (g * -cr a b x y) * (f * (g * g * pd f a b a b)) := by unfold sqr; grind
      rw [this, k1, k2]
      grind
    rw [e1, sg_pos (Int.mul_pos (by omega) fS)]
  generalize pd f a b a b * (0 - m) = p at *
  generalize -cr a b x y = t at *
  generalize pd f w0 w1 x y = u at *
  generalize pd f w0 w1 w0 w1 = v at *
  generalize sqr f a b 0 = s at *
  generalize 0 - m = z at *
  unfold rsg
  simp only [if_pos hs, if_pos hS, q1, q2, q3]
  rcases sg_cases u with r1 | r1 | r1 <;> rcases sg_cases z with r2 | r2 | r2 <;> simp [r1.1, r2.1]
end Ev

/-! QT: trees of sides in plain data. -/
namespace Ev
open PySem
/-- a tree of sides -/
inductive Tr where
  | side (a b l : Int)
  | all
  | not (t : Tr)
  | and (ts : List Tr)
  | or (ts : List Tr)
mutual
def Tr.d : Tr → PyData
  | .side a b l => .tuple [.str "side", .tuple [.int a, .int b], .int l]
  | .all => .tuple [.str "all"]
  | .not t => .tuple [.str "not", t.d]
  | .and ts => .tuple [.str "and", .tuple (Tr.ds ts)]
  | .or ts => .tuple [.str "or", .tuple (Tr.ds ts)]
def Tr.ds : List Tr → List PyData
  | [] => []
  | t :: ts => t.d :: Tr.ds ts
end
mutual
def Tr.dep : Tr → Nat
  | .side _ _ _ => 1
  | .all => 1
  | .not t => t.dep + 1
  | .and ts => Tr.deps ts + 1
  | .or ts => Tr.deps ts + 1
def Tr.deps : List Tr → Nat
  | [] => 0
  | t :: ts => max t.dep (Tr.deps ts)
end
mutual
/-- how many sides -/
def Tr.cnt : Tr → Nat
  | .side _ _ _ => 1
  | .all => 0
  | .not t => t.cnt
  | .and ts => Tr.cnts ts
  | .or ts => Tr.cnts ts
def Tr.cnts : List Tr → Nat
  | [] => 0
  | t :: ts => t.cnt + Tr.cnts ts
end
mutual
/-- the place of an angle lies in a tree's places -/
def Tr.lies (f a b l : Int) : Tr → Bool
  | .side x y m => decide (0 < sd f a b l x y m)
  | .all => true
  | .not t => !(t.lies f a b l)
  | .and ts => (Tr.liess f a b l ts).all id
  | .or ts => (Tr.liess f a b l ts).any id
def Tr.liess (f a b l : Int) : List Tr → List Bool
  | [] => []
  | t :: ts => t.lies f a b l :: Tr.liess f a b l ts
end
mutual
/-- its numbers are small -/
def Tr.sm (k : Nat) : Tr → Prop
  | .side a b l => Sm k a ∧ Sm k b ∧ Sm k l
  | .all => True
  | .not t => t.sm k
  | .and ts => ts.length < 1000 ∧ Tr.sms k ts
  | .or ts => ts.length < 1000 ∧ Tr.sms k ts
def Tr.sms (k : Nat) : List Tr → Prop
  | [] => True
  | t :: ts => t.sm k ∧ Tr.sms k ts
end
theorem Tr.ds_map : ∀ ts : List Tr, Tr.ds ts = ts.map Tr.d
  | [] => rfl
  | t :: ts => by rw [Tr.ds, Tr.ds_map ts, List.map_cons]
theorem Tr.ds_len (ts : List Tr) : (Tr.ds ts).length = ts.length := by rw [Tr.ds_map, List.length_map]
theorem Tr.liess_map (f a b l : Int) : ∀ ts : List Tr, Tr.liess f a b l ts = ts.map (Tr.lies f a b l)
  | [] => rfl
  | t :: ts => by rw [Tr.liess, Tr.liess_map f a b l ts, List.map_cons]
theorem Tr.deps_le : ∀ {ts : List Tr} {t : Tr}, t ∈ ts → t.dep ≤ Tr.deps ts
  | t :: ts, u, h => by
    rw [Tr.deps]
    rcases List.mem_cons.mp h with rfl | h
    · exact Nat.le_max_left _ _
    · exact Nat.le_trans (Tr.deps_le h) (Nat.le_max_right _ _)
theorem Tr.sms_mem {k : Nat} : ∀ {ts : List Tr} {t : Tr}, Tr.sms k ts → t ∈ ts → t.sm k
  | t :: ts, u, h, hm => by
    rw [Tr.sms] at h
    rcases List.mem_cons.mp hm with rfl | hm
    · exact h.1
    · exact Tr.sms_mem h.2 hm
mutual
/-- its parts are not too many -/
def Tr.wd : Tr → Prop
  | .side _ _ _ => True
  | .all => True
  | .not t => t.wd
  | .and ts => (1 ≤ ts.length ∧ ts.length ≤ 8) ∧ Tr.wds ts
  | .or ts => (1 ≤ ts.length ∧ ts.length ≤ 8) ∧ Tr.wds ts
def Tr.wds : List Tr → Prop
  | [] => True
  | t :: ts => t.wd ∧ Tr.wds ts
end
mutual
/-- the sides -/
def Tr.sides : Tr → List (Int × Int × Int)
  | .side a b l => [(a, b, l)]
  | .all => []
  | .not t => t.sides
  | .and ts => Tr.sidess ts
  | .or ts => Tr.sidess ts
def Tr.sidess : List Tr → List (Int × Int × Int)
  | [] => []
  | t :: ts => t.sides ++ Tr.sidess ts
end
theorem Tr.wds_mem : ∀ {ts : List Tr} {t : Tr}, Tr.wds ts → t ∈ ts → t.wd
  | t :: ts, u, h, hm => by
    rw [Tr.wds] at h
    rcases List.mem_cons.mp hm with rfl | hm
    · exact h.1
    · exact Tr.wds_mem h.2 hm
theorem Tr.cnts_map : ∀ ts : List Tr, Tr.cnts ts = (ts.map Tr.cnt).sum
  | [] => rfl
  | t :: ts => by rw [Tr.cnts, Tr.cnts_map ts, List.map_cons, List.sum_cons]
mutual
theorem Tr.lay : ∀ t : Tr, t.d.canLay0 = true
  | .side a b l => by
    rw [Tr.d]
    have : PyData.strOk "side" = true := by decide +kernel
    simp [PyData.canLay0, PyData.canLayAll0, this]
  | .all => by
    rw [Tr.d]
    have : PyData.strOk "all" = true := by decide +kernel
    simp [PyData.canLay0, PyData.canLayAll0, this]
  | .not t => by
    rw [Tr.d]
    have : PyData.strOk "not" = true := by decide +kernel
    simp [PyData.canLay0, PyData.canLayAll0, this, Tr.lay t]
  | .and ts => by
    rw [Tr.d]
    have : PyData.strOk "and" = true := by decide +kernel
    simp [PyData.canLay0, PyData.canLayAll0, this, Tr.lays ts]
  | .or ts => by
    rw [Tr.d]
    have : PyData.strOk "or" = true := by decide +kernel
    simp [PyData.canLay0, PyData.canLayAll0, this, Tr.lays ts]
theorem Tr.lays : ∀ ts : List Tr, PyData.canLayAll0 (Tr.ds ts) = true
  | [] => by rw [Tr.ds]; rfl
  | t :: ts => by rw [Tr.ds]; simp [PyData.canLayAll0, Tr.lay t, Tr.lays ts]
end
mutual
theorem Tr.dpt : ∀ t : Tr, t.d.depth ≤ 2 * t.dep
  | .side a b l => by rw [Tr.d, Tr.dep]; simp [PyData.depth, PyData.depthAll]
  | .all => by rw [Tr.d, Tr.dep]; simp [PyData.depth, PyData.depthAll]
  | .not t => by have := Tr.dpt t; rw [Tr.d, Tr.dep]; simp [PyData.depth, PyData.depthAll]; omega
  | .and ts => by have := Tr.dpts ts; rw [Tr.d, Tr.dep]; simp [PyData.depth, PyData.depthAll]; omega
  | .or ts => by have := Tr.dpts ts; rw [Tr.d, Tr.dep]; simp [PyData.depth, PyData.depthAll]; omega
theorem Tr.dpts : ∀ ts : List Tr, PyData.depthAll (Tr.ds ts) ≤ 2 * Tr.deps ts
  | [] => by rw [Tr.ds, Tr.deps]; simp [PyData.depthAll]
  | t :: ts => by have := Tr.dpt t; have := Tr.dpts ts; rw [Tr.ds, Tr.deps]; simp [PyData.depthAll]; omega
end
theorem Tr.shp {t : Tr} (h : t.dep ≤ 20) : sh t.d = true := by
  have := Tr.dpt t
  unfold sh SeqAt.shaped
  rw [Tr.lay t, Bool.true_and]
  exact decide_eq_true (by omega)
theorem Tr.ne_emp (t : Tr) : PyData.eqv t.d (.tuple []) = false := by cases t <;> (rw [Tr.d]; simp [PyData.eqv, PyData.eqvAll])
theorem Tr.eq_all (t : Tr) : PyData.eqv t.d (.tuple [.str "all"]) = (match t with | .all => true | _ => false) := by
  have n1 : (("side" : Str) == "all") = false := by decide +kernel
  have n2 : (("all" : Str) == "all") = true := by decide +kernel
  have n3 : (("not" : Str) == "all") = false := by decide +kernel
  have n4 : (("and" : Str) == "all") = false := by decide +kernel
  have n5 : (("or" : Str) == "all") = false := by decide +kernel
  cases t <;> (rw [Tr.d]; simp [PyData.eqv, PyData.eqvAll, n1, n2, n3, n4, n5])
/-- a touch -/
theorem rsg_touch {g N m : Int} (hN : 0 < N) (hm : m * m = g * g * N) (h : 0 < g ∧ 0 < m ∨ g < 0 ∧ m < 0) : rsg (g * N) (0 - m) N = 0 := by
  have e : g * N * (g * N) - (0 - m) * (0 - m) * N = 0 := by
    have : (0 - m) * (0 - m) = m * m := by grind
    rw [this, hm]; grind
  unfold rsg
  simp only [if_pos hN, e]
  have z : sg 0 = 0 := rfl
  rw [z]
  rcases h with ⟨a, b⟩ | ⟨a, b⟩
  · have : 0 < g * N := Int.mul_pos a hN
    have q1 : sg (g * N) = 1 := by rcases sg_cases (g * N) with q | q | q <;> omega
    have r1 : sg (0 - m) = -1 := by rcases sg_cases (0 - m) with q | q | q <;> omega
    rw [q1, r1]; decide
  · have : g * N < 0 := Int.mul_neg_of_neg_of_pos a hN
    have q1 : sg (g * N) = -1 := by rcases sg_cases (g * N) with q | q | q <;> omega
    have r1 : sg (0 - m) = 1 := by rcases sg_cases (0 - m) with q | q | q <;> omega
    rw [q1, r1]; decide
theorem Tr.sidess_mem {p : Int × Int × Int} : ∀ {ts : List Tr}, p ∈ Tr.sidess ts → ∃ t ∈ ts, p ∈ t.sides
  | [], h => by rw [Tr.sidess] at h; cases h
  | t :: ts, h => by
    rw [Tr.sidess] at h
    rcases List.mem_append.mp h with h | h
    · exact ⟨t, List.mem_cons_self, h⟩
    · obtain ⟨u, hu, h⟩ := Tr.sidess_mem h
      exact ⟨u, List.mem_cons_of_mem _ hu, h⟩
mutual
theorem Tr.sides_len : ∀ t : Tr, t.sides.length = t.cnt
  | .side a b l => by rw [Tr.sides, Tr.cnt]; rfl
  | .all => by rw [Tr.sides, Tr.cnt]; rfl
  | .not t => by rw [Tr.sides, Tr.cnt, Tr.sides_len t]
  | .and ts => by rw [Tr.sides, Tr.cnt, Tr.sidess_len ts]
  | .or ts => by rw [Tr.sides, Tr.cnt, Tr.sidess_len ts]
theorem Tr.sidess_len : ∀ ts : List Tr, (Tr.sidess ts).length = Tr.cnts ts
  | [] => by rw [Tr.sidess, Tr.cnts]; rfl
  | t :: ts => by rw [Tr.sidess, Tr.cnts, List.length_append, Tr.sides_len t, Tr.sidess_len ts]
end
mutual
theorem Tr.sides_sm {k : Nat} {p : Int × Int × Int} : ∀ t : Tr, t.sm k → p ∈ t.sides → Sm k p.1 ∧ Sm k p.2.1 ∧ Sm k p.2.2
  | .side a b l, h, hp => by
    rw [Tr.sides] at hp
    rw [Tr.sm] at h
    obtain rfl := List.mem_singleton.mp hp
    exact h
  | .all, h, hp => by rw [Tr.sides] at hp; cases hp
  | .not t, h, hp => by rw [Tr.sides] at hp; rw [Tr.sm] at h; exact Tr.sides_sm t h hp
  | .and ts, h, hp => by rw [Tr.sides] at hp; rw [Tr.sm] at h; exact Tr.sidess_sm ts h.2 hp
  | .or ts, h, hp => by rw [Tr.sides] at hp; rw [Tr.sm] at h; exact Tr.sidess_sm ts h.2 hp
theorem Tr.sidess_sm {k : Nat} {p : Int × Int × Int} : ∀ ts : List Tr, Tr.sms k ts → p ∈ Tr.sidess ts → Sm k p.1 ∧ Sm k p.2.1 ∧ Sm k p.2.2
  | [], h, hp => by rw [Tr.sidess] at hp; cases hp
  | t :: ts, h, hp => by
    rw [Tr.sidess] at hp
    rw [Tr.sms] at h
    rcases List.mem_append.mp hp with hp | hp
    · exact Tr.sides_sm t h.1 hp
    · exact Tr.sidess_sm ts h.2 hp
end
mutual
theorem Tr.sm_mono {k l : Nat} (hkl : k ≤ l) : ∀ t : Tr, t.sm k → t.sm l
  | .side a b m, h => by rw [Tr.sm] at *; exact ⟨h.1.mono hkl, h.2.1.mono hkl, h.2.2.mono hkl⟩
  | .all, h => by rw [Tr.sm]; trivial
  | .not t, h => by rw [Tr.sm] at *; exact Tr.sm_mono hkl t h
  | .and ts, h => by rw [Tr.sm] at *; exact ⟨h.1, Tr.sms_mono hkl ts h.2⟩
  | .or ts, h => by rw [Tr.sm] at *; exact ⟨h.1, Tr.sms_mono hkl ts h.2⟩
theorem Tr.sms_mono {k l : Nat} (hkl : k ≤ l) : ∀ ts : List Tr, Tr.sms k ts → Tr.sms l ts
  | [], h => by rw [Tr.sms]; trivial
  | t :: ts, h => by rw [Tr.sms] at *; exact ⟨Tr.sm_mono hkl t h.1, Tr.sms_mono hkl ts h.2⟩
end
/-- of so deep, so many sides, whole -/
structure TOk (d c k : Nat) (t : Tr) : Prop where
  dep : t.dep ≤ d
  cnt : t.cnt ≤ c
  wd : t.wd
  sm : t.sm k
theorem TOk.mono {d c k d2 c2 k2 : Nat} {t : Tr} (h : TOk d c k t) (a : d ≤ d2) (b : c ≤ c2) (e : k ≤ k2) : TOk d2 c2 k2 t := ⟨Nat.le_trans h.dep a, Nat.le_trans h.cnt b, h.wd, Tr.sm_mono e t h.sm⟩
theorem TOk.many {d c k : Nat} : ∀ {ts : List Tr}, (∀ t ∈ ts, TOk d c k t) → Tr.deps ts ≤ d ∧ Tr.cnts ts ≤ ts.length * c ∧ Tr.wds ts ∧ Tr.sms k ts
  | [], _ => ⟨by rw [Tr.deps]; omega, by rw [Tr.cnts]; omega, by rw [Tr.wds]; trivial, by rw [Tr.sms]; trivial⟩
  | t :: ts, h => by
    obtain ⟨a, b, e, g⟩ := TOk.many fun u hu => h u (List.mem_cons_of_mem _ hu)
    have z := h t List.mem_cons_self
    have z1 := z.dep
    have z2 := z.cnt
    refine ⟨by rw [Tr.deps]; omega, ?_, by rw [Tr.wds]; exact ⟨z.wd, e⟩, by rw [Tr.sms]; exact ⟨z.sm, g⟩⟩
    rw [Tr.cnts, List.length_cons, Nat.add_mul]
    omega
theorem TOk.side {k : Nat} {a b l : Int} (h : Sm k a ∧ Sm k b ∧ Sm k l) : TOk 1 1 k (.side a b l) := ⟨by rw [Tr.dep]; omega, by rw [Tr.cnt]; omega, by rw [Tr.wd]; trivial, by rw [Tr.sm]; exact h⟩
theorem TOk.all {k : Nat} : TOk 1 1 k .all := ⟨by rw [Tr.dep]; omega, by rw [Tr.cnt]; omega, by rw [Tr.wd]; trivial, by rw [Tr.sm]; trivial⟩
theorem TOk.not {d c k : Nat} {t : Tr} (h : TOk d c k t) : TOk (d + 1) c k (.not t) := ⟨by rw [Tr.dep]; have := h.dep; omega, by rw [Tr.cnt]; exact h.cnt, by rw [Tr.wd]; exact h.wd, by rw [Tr.sm]; exact h.sm⟩
theorem TOk.and {d c k : Nat} {ts : List Tr} (h : ∀ t ∈ ts, TOk d c k t) (hl : 1 ≤ ts.length ∧ ts.length ≤ 8) : TOk (d + 1) (ts.length * c) k (.and ts) := by
  obtain ⟨a, b, e, g⟩ := TOk.many h
  exact ⟨by rw [Tr.dep]; omega, by rw [Tr.cnt]; exact b, by rw [Tr.wd]; exact ⟨hl, e⟩, by rw [Tr.sm]; exact ⟨by omega, g⟩⟩
theorem TOk.or {d c k : Nat} {ts : List Tr} (h : ∀ t ∈ ts, TOk d c k t) (hl : 1 ≤ ts.length ∧ ts.length ≤ 8) : TOk (d + 1) (ts.length * c) k (.or ts) := by
  obtain ⟨a, b, e, g⟩ := TOk.many h
  exact ⟨by rw [Tr.dep]; omega, by rw [Tr.cnt]; exact b, by rw [Tr.wd]; exact ⟨hl, e⟩, by rw [Tr.sm]; exact ⟨by omega, g⟩⟩
/-! ### the edges of a side -/
theorem AngOk.neg {f a b l : Int} (h : AngOk f a b l) : AngOk f (0 - a) (0 - b) (0 - l) := by
  refine ⟨h.form, ?_, ?_⟩
  · have e : gcL [0 - a, 0 - b, 0 - l] = gcL [a, b, l] := by simp only [gcL, List.foldl, gc, Int.zero_sub, Int.natAbs_neg]
    rw [e, h.co]
  · have e1 : (0 - l) * (0 - l) = l * l := by grind
    have e2 : pd f (0 - a) (0 - b) (0 - a) (0 - b) = pd f a b a b := by unfold pd; grind
    rw [e1, e2]
    exact h.lev
/-- an angle's data -/
def anD (f : Int) (p : Int × Int × Int) : PyData := .tuple [.int f, .int p.1, .int p.2.1, .int p.2.2]
/-- the angle of a way -/
theorem way_ang {f w0 w1 : Int} {k : Nat} (hf : 1 ≤ f ∧ f ≤ 3) (hw : w0 ≠ 0 ∨ w1 ≠ 0) (h0 : Sm k w0) (h1 : Sm k w1) : gcL [0 - f * w1, w0, 0] ≠ 0 ∧ ∃ p q, redL [0 - f * w1, w0, 0] = [p, q, 0] ∧ AngOk f p q 0 ∧ Sm (k + 3) p ∧ Sm (k + 3) q ∧ ∀ x y m, sd f p q 0 x y m = rsg (pd f w0 w1 x y) (0 - m) (pd f w0 w1 w0 w1) := by
  have hf2 : Sm 2 f := by unfold Sm; omega
  have hS0 := pd_pos hf.1 hw
  have hfw : Sm (k + 3) (0 - f * w1) := Sm.mono (Sm.zero.sub (hf2.mul h1)) (by omega)
  have hh : (0 : Int) * 0 < pd f (0 - f * w1) w0 (0 - f * w1) w0 := by
    have e : pd f (0 - f * w1) w0 (0 - f * w1) w0 = f * pd f w0 w1 w0 w1 := by unfold pd; grind
    rw [e, Int.zero_mul]
    exact Int.mul_pos (by omega) hS0
  obtain ⟨hg2, p, q, l2, er2, ok2, sp, sq, sl⟩ := red_ang hf hh hfw (h0.mono (by omega)) (show Sm (k + 3) 0 by unfold Sm; exact Nat.pow_pos (by decide))
  obtain ⟨gg0, er3, _⟩ := red_spec hg2
  rw [er2] at er3
  simp only [List.map_cons, List.map_nil, List.cons.injEq, and_true] at er3
  obtain ⟨q1, q2, q3⟩ := er3
  have hl0 : l2 = 0 := by
    rcases Int.mul_eq_zero.mp q3.symm with c | c
    · omega
    · exact c
  subst hl0
  refine ⟨hg2, p, q, er2, ok2, sp, sq, fun x y m => ?_⟩
  exact sd_way hf.1 gg0 (by rw [← q1]; grind) q2 hw
theorem red2_sm {k : Nat} {x y : Int} (hx : Sm k x) (hy : Sm k y) : Sm k (gcL [x, y]) := gcL_sm fun u hu => by
  simp only [List.mem_cons, List.not_mem_nil, or_false] at hu
  rcases hu with rfl | rfl
  · exact hx
  · exact hy
theorem red3_sm {k : Nat} {x y z : Int} (hx : Sm k x) (hy : Sm k y) (hz : Sm k z) : Sm k (gcL [x, y, z]) := gcL_sm fun u hu => by
  simp only [List.mem_cons, List.not_mem_nil, or_false] at hu
  rcases hu with rfl | rfl | rfl
  · exact hx
  · exact hy
  · exact hz
/-- a vector reduced to a way -/
theorem red_vec {x y : Int} {k : Nat} (h : x ≠ 0 ∨ y ≠ 0) (hx : Sm k x) (hy : Sm k y) : gcL [x, y] ≠ 0 ∧ ∃ w0 w1 g, 0 < g ∧ redL [x, y] = [w0, w1] ∧ x = g * w0 ∧ y = g * w1 ∧ gcL [w0, w1] = 1 ∧ (w0 ≠ 0 ∨ w1 ≠ 0) ∧ Sm k w0 ∧ Sm k w1 := by
  have hg : gcL [x, y] ≠ 0 := fun c => by
    have z := gcL_zero c
    have z0 := z x (by simp)
    have z1 := z y (by simp)
    omega
  obtain ⟨g0, er, g1⟩ := red_spec hg
  have wsm := fun u hu => red_sm (k := k) hg (x := u) hu (fun z hz => by
    simp only [List.mem_cons, List.not_mem_nil, or_false] at hz
    rcases hz with rfl | rfl
    · exact hx
    · exact hy)
  obtain ⟨w0, w1, ew⟩ : ∃ w0 w1, redL [x, y] = [w0, w1] := ⟨_, _, rfl⟩
  rw [ew] at er g1 wsm
  simp only [List.map_cons, List.map_nil, List.cons.injEq, and_true] at er
  refine ⟨hg, w0, w1, gcL [x, y], g0, ew, er.1, er.2, g1, ?_, wsm w0 (by simp), wsm w1 (by simp)⟩
  by_cases z : w0 = 0
  · right
    intro z1
    rw [z, z1] at er
    simp at er
    omega
  · exact .inl z
/-! ### stores with more behind -/
theorem set_app {S R : Sto} {j : Nat} (h : j < S.length) (c : Option (List D)) : (S ++ R).set j c = S.set j c ++ R := List.set_append_left _ _ h
theorem get_app {S R : Sto} {j : Nat} {c : Option (List D)} (h : S[j]? = some c) : (S ++ R)[j]? = some c := by rw [List.getElem?_append_left (List.getElem?_eq_some_iff.mp h).1, h]
theorem get_end {S : Sto} {n : Nat} (c : Option (List D)) (h : n = S.length) : (S ++ [c])[n]? = some c := by subst h; simp
theorem set_end {S : Sto} {n : Nat} (c d : Option (List D)) (h : n = S.length) : (S ++ [c]).set n d = S ++ [d] := by subst h; simp
theorem take_end {S R : Sto} {n : Nat} (h : n = S.length) : (S ++ R).take n = S := by subst h; simp
theorem range_ints (k : Nat) : intsD 0 (k : Int).toNat = (List.range k).map fun (k : Nat) => PyData.int (k : Int) := by
  unfold intsD
  simp
theorem root_smh {r v : Int} {k : Nat} (h0 : 0 ≤ r) (h1 : r * r ≤ v) (hv : Sm (2 * k) v) : Sm k r := by
  unfold Sm at *
  apply Classical.byContradiction
  intro c
  have c : 2 ^ k ≤ r.natAbs := by omega
  have e := Nat.mul_le_mul c c
  rw [← Nat.pow_add, show k + k = 2 * k by omega] at e
  have : ((r.natAbs * r.natAbs : Nat) : Int) = r * r := by rw [Int.natCast_mul, Int.natAbs_mul_self']
  omega
end Ev

/-! QV: valves in plain data. -/
namespace Ev
open PySem L2
/-- a valve's numbers -/
structure Vl where
  f : Int
  a : Int
  b : Int
  sh : Int
  xh : Int
  sc : Int
  xc : Int
  p : Int
def Vl.d (v : Vl) : PyData := .tuple [.int v.f, .tuple [.int v.a, .int v.b], .tuple [.int v.sh, .int v.xh, .int v.sc, .int v.xc], .int v.p]
structure VOk (k : Nat) (v : Vl) : Prop where
  form : 1 ≤ v.f ∧ v.f ≤ 3
  co : gcL [v.a, v.b, v.sh, v.xh, v.sc, v.xc, v.p] = 1
  pos : 0 < v.p
  sa : Sm k v.a
  sb : Sm k v.b
  s1 : Sm k v.sh
  s2 : Sm k v.xh
  s3 : Sm k v.sc
  s4 : Sm k v.xc
  sp : Sm k v.p
/-- an end's name -/
def endS (h : Bool) : Str := if h then "head" else "crank"
/-- the side in which an end takes steam -/
def Vl.st (v : Vl) : Bool → Int × Int × Int
  | true => (v.a, v.b, v.sh)
  | false => (-v.a, -v.b, v.sc)
/-- the side in which an end exhausts -/
def Vl.ex (v : Vl) : Bool → Int × Int × Int
  | true => (-v.a, -v.b, v.xh)
  | false => (v.a, v.b, v.xc)
def sideT (p : Int × Int × Int) : Tr := .side p.1 p.2.1 p.2.2
/-- the word of two tests -/
def word (s x : Bool) : Str := if s then (if x then "both" else "steam") else (if x then "exhaust" else "closed")
def p2D (p : Int × Int × Int) : PyData := .tuple [.tuple [.int p.1, .int p.2.1], .int p.2.2]
theorem VOk.st_sm {k : Nat} {v : Vl} (h : VOk k v) (e : Bool) : Sm k (v.st e).1 ∧ Sm k (v.st e).2.1 ∧ Sm k (v.st e).2.2 := by
  cases e
  · exact ⟨h.sa.neg, h.sb.neg, h.s3⟩
  · exact ⟨h.sa, h.sb, h.s1⟩
theorem VOk.ex_sm {k : Nat} {v : Vl} (h : VOk k v) (e : Bool) : Sm k (v.ex e).1 ∧ Sm k (v.ex e).2.1 ∧ Sm k (v.ex e).2.2 := by
  cases e
  · exact ⟨h.sa, h.sb, h.s4⟩
  · exact ⟨h.sa.neg, h.sb.neg, h.s2⟩
/-- the tree of the places with a state: takes steam, exhausts -/
def Vl.tr (v : Vl) (e : Bool) (s x : Bool) : Tr := .and [if s then sideT (v.st e) else .not (sideT (v.st e)), if x then sideT (v.ex e) else .not (sideT (v.ex e))]
theorem Vl.tr_ok {k : Nat} {v : Vl} (h : VOk k v) (e s x : Bool) : TOk 3 2 k (v.tr e s x) := by
  have t1 : TOk 1 1 k (sideT (v.st e)) := TOk.side (h.st_sm e)
  have t2 : TOk 1 1 k (sideT (v.ex e)) := TOk.side (h.ex_sm e)
  refine (TOk.and (d := 2) (c := 1) (k := k) (fun t ht => ?_) (by simp)).mono (by decide) (by simp) (by omega)
  simp only [List.mem_cons, List.not_mem_nil, or_false] at ht
  rcases ht with rfl | rfl
  · cases s
    · exact t1.not
    · exact t1.mono (by decide) (by decide) (by omega)
  · cases x
    · exact t2.not
    · exact t2.mono (by decide) (by decide) (by omega)
/-- an end takes steam at a place; exhausts -/
def Vl.stAt (v : Vl) (e : Bool) (a b l : Int) : Bool := decide (0 < sd v.f a b l (v.st e).1 (v.st e).2.1 (v.st e).2.2)
def Vl.exAt (v : Vl) (e : Bool) (a b l : Int) : Bool := decide (0 < sd v.f a b l (v.ex e).1 (v.ex e).2.1 (v.ex e).2.2)
theorem Vl.tr_lies (v : Vl) (e s x : Bool) (a b l : Int) : (v.tr e s x).lies v.f a b l = (v.stAt e a b l == s && v.exAt e a b l == x) := by
  unfold Vl.tr
  simp only [Tr.lies, Tr.liess, List.all_cons, List.all_nil, Bool.and_true, id]
  cases s <;> cases x <;> simp only [if_true, if_false, Bool.false_eq_true, Tr.lies, sideT, Vl.stAt, Vl.exAt] <;> simp
theorem sd_neg2 (f a b l x y m : Int) : sd f a b l (-x) (-y) m = - sd f a b l x y (0 - m) := by
  have := sd_neg f a b l x y (0 - m)
  have e : (0 : Int) - (0 - m) = m := by omega
  rw [e, Int.zero_sub, Int.zero_sub] at this
  rw [this]; omega
theorem word_eq (s x s2 x2 : Bool) : decide (word s x = word s2 x2) = (s == s2 && x == x2) := by
  cases s <;> cases x <;> cases s2 <;> cases x2 <;> decide +kernel
/-- a good angle -/
def AOk (f : Int) (p : Int × Int × Int) : Prop := AngOk f p.1 p.2.1 p.2.2 ∧ Sm 250 p.1 ∧ Sm 250 p.2.1 ∧ Sm 250 p.2.2
/-- a comprehension over a list of one's own -/
theorem c_own {α : Type} {C : Calls} {env : Env} {own : List Nat} {tg : Tg} {elt : Ex} {S : Sto} {ls : List (Nat × List D)} (hst : still ls S) (f g : α → D) : ∀ (xs : List α), (∀ x ∈ xs, ∃ e2, asgT tg C (.d (f x)) (wipeE env own) S = .ok e2 S ∧ evE elt C e2 S = .ok (.d (g x)) S) → compE C env own tg .nil elt ls (xs.map f) S = .ok (xs.map g) S
  | [], _ => by
    unfold compE
    rw [List.map_nil, compL, if_pos hst] <;> rfl
  | x :: xs, h => by
    obtain ⟨e2, h1, h2⟩ := h x List.mem_cons_self
    have ih := c_own hst f g xs fun y hy => h y (List.mem_cons_of_mem _ hy)
    unfold compE at ih ⊢
    rw [List.map_cons, compL, if_pos hst, h1]
    simp only [rb_ok, if_nil, if_true] at ih ⊢
    simp only [h2, rb_ok, f_d, ih]
    rfl
theorem at_last (ys : List D) (d : D) : atI (ys ++ [d]) (-1) = some d := by
  have h : ixN (ys ++ [d]).length (-1) = some ys.length := by
    unfold ixN
    simp only [List.length_append, List.length_cons, List.length_nil]
    rw [if_neg (by decide), if_pos (by omega)]
    congr 1
    omega
  unfold atI
  rw [h]
  simp
/-- events: an end, an event, its angle -/
def evD (f : Int) (p : Str × Str × (Int × Int × Int)) : PyData := .tuple [.str p.1, .str p.2.1, anD f p.2.2]
def plD (p : Str × Str × Int × Bool) : PyData := .tuple [.str p.1, .str p.2.1, .int p.2.2.1, .bool p.2.2.2]
/-- the plans of a valve -/
def Vl.plans (v : Vl) : List (Str × Str × Int × Bool) :=
  [("head", "admission", v.sh, true), ("head", "cutoff", v.sh, false), ("head", "release", 0 - v.xh, false), ("head", "compression", 0 - v.xh, true),
   ("crank", "admission", 0 - v.sc, false), ("crank", "cutoff", 0 - v.sc, true), ("crank", "release", v.xc, true), ("crank", "compression", v.xc, false)]
/-- an event's angle by its plan -/
def Vl.planA (v : Vl) (l : Int) (r : Bool) : Int × Int × Int := match redL [v.a, v.b, l] with
  | [a, b, m] => if r then (a, b, m) else (0 - a, 0 - b, 0 - m)
  | _ => (0, 0, 0)
/-- the events, in no order -/
def Vl.evs (v : Vl) : List (Str × Str × Int × Bool) → List (Str × Str × (Int × Int × Int))
  | [] => []
  | p :: ps => if p.2.2.1 * p.2.2.1 < pd v.f v.a v.b v.a v.b then (p.1, p.2.1, v.planA p.2.2.1 p.2.2.2) :: v.evs ps else v.evs ps
theorem q_at6 {x0 x1 x2 x3 x4 x5 x6 : D} {xs : List D} : atI (x0 :: x1 :: x2 :: x3 :: x4 :: x5 :: x6 :: xs) 6 = some x6 := q_atN _ (n := 6) rfl
theorem cut7a (S : Sto) (m : Bool) (x0 x1 x2 x3 x4 x5 x6 : D) : slU m (.d (.tuple [x0, x1, x2, x3, x4, x5, x6])) none (some 2) S = .ok (.d (.tuple [x0, x1])) S := (rfl)
theorem cut7b (S : Sto) (m : Bool) (x0 x1 x2 x3 x4 x5 x6 : D) : slU m (.d (.tuple [x0, x1, x2, x3, x4, x5, x6])) (some 2) (some 6) S = .ok (.d (.tuple [x2, x3, x4, x5])) S := (rfl)
theorem cut2of3 (S : Sto) (m : Bool) (x y z : D) : slU m (.d (.tuple [x, y, z])) none (some 2) S = .ok (.d (.tuple [x, y])) S := (rfl)
theorem gc_mul {g : Int} (hg : 0 ≤ g) (a b : Int) : gc (g * a) (g * b) = g * gc a b := by
  obtain ⟨n, rfl⟩ : ∃ n : Nat, g = n := ⟨g.toNat, by omega⟩
  simp only [gc, Int.natAbs_mul, Int.natAbs_natCast, Nat.gcd_mul_left, Int.natCast_mul]
theorem gcL_mul {g : Int} (hg : 0 ≤ g) (ns : List Int) : gcL (ns.map fun x => g * x) = g * gcL ns := by
  have key : ∀ (ns : List Int) (c : Int), (ns.map fun x => g * x).foldl gc (g * c) = g * ns.foldl gc c := fun ns => by
    induction ns with
    | nil => intro c; rfl
    | cons x ns ih => intro c; simp only [List.map_cons, List.foldl_cons]; rw [gc_mul hg]; exact ih _
  have := key ns 0
  rw [Int.mul_zero] at this
  exact this
theorem redL_mul {g : Int} (hg : 0 < g) {ns : List Int} (h : gcL ns = 1) : redL (ns.map fun x => g * x) = ns := by
  unfold redL
  rw [gcL_mul (Int.le_of_lt hg), h, Int.mul_one, List.map_map]
  have : ((fun x => Int.fdiv x g) ∘ fun x => g * x) = id := by funext x; exact fdiv_mul hg
  rw [this, List.map_id]
theorem prim {G H : Int} (hG : 0 < G) (hH : 0 < H) {us vs : List Int} (hu : gcL us = 1) (hv : gcL vs = 1) (h : us.map (fun x => G * x) = vs.map fun x => H * x) : us = vs := by
  rw [← redL_mul hG hu, ← redL_mul hH hv, h]
/-- the seven numbers of a valve -/
def Vl.ns (v : Vl) : List Int := [v.a, v.b, v.sh, v.xh, v.sc, v.xc, v.p]
theorem Vl.ext7 {v w : Vl} (hf : v.f = w.f) (h : v.ns = w.ns) : v = w := by
  obtain ⟨f, a, b, c, d, e, g, p⟩ := v
  obtain ⟨f', a', b', c', d', e', g', p'⟩ := w
  simp only [Vl.ns, List.cons.injEq, and_true] at h hf
  obtain ⟨h1, h2, h3, h4, h5, h6, h7⟩ := h
  rw [hf, h1, h2, h3, h4, h5, h6, h7]
theorem Vl.prim {v w : Vl} {k l : Nat} {G H : Int} (hv : VOk k v) (hw : VOk l w) (hG : 0 < G) (hH : 0 < H) (hf : v.f = w.f) (h : v.ns.map (fun x => G * x) = w.ns.map fun x => H * x) : v = w := Vl.ext7 hf (Ev.prim hG hH hv.co hw.co h)
/-- numbers reduced to a valve -/
theorem vl_made {f : Int} (hf : 1 ≤ f ∧ f ≤ 3) {k : Nat} {a b sh xh sc xc p : Int} (hp : 0 < p) (h : ∀ x ∈ [a, b, sh, xh, sc, xc, p], Sm k x) :
    gcL [a, b, sh, xh, sc, xc, p] ≠ 0 ∧ Sm k (gcL [a, b, sh, xh, sc, xc, p]) ∧ ∃ (v : Vl) (g : Int), v.f = f ∧ 0 < g ∧ redL [a, b, sh, xh, sc, xc, p] = v.ns ∧ VOk k v ∧ [a, b, sh, xh, sc, xc, p] = v.ns.map (fun x => g * x) := by
  have hg : gcL [a, b, sh, xh, sc, xc, p] ≠ 0 := fun e => by
    have := gcL_zero e p (by simp)
    omega
  obtain ⟨g1, g2, g3⟩ := red_spec hg
  have sm : ∀ x ∈ redL [a, b, sh, xh, sc, xc, p], Sm k x := fun x hx => red_sm hg hx h
  obtain ⟨x0, x1, x2, x3, x4, x5, x6, er⟩ : ∃ x0 x1 x2 x3 x4 x5 x6, redL [a, b, sh, xh, sc, xc, p] = [x0, x1, x2, x3, x4, x5, x6] := ⟨_, _, _, _, _, _, _, rfl⟩
  rw [er] at g2 g3 sm ⊢
  refine ⟨hg, gcL_sm h, ⟨f, x0, x1, x2, x3, x4, x5, x6⟩, gcL [a, b, sh, xh, sc, xc, p], rfl, g1, rfl, ?_, ?_⟩
  · have pos : 0 < x6 := by
      simp only [List.map_cons, List.map_nil, List.cons.injEq, and_true] at g2
      have := g2.2.2.2.2.2.2
      generalize gcL [a, b, sh, xh, sc, xc, p] = g at *
      rw [this] at hp
      exact Int.pos_of_mul_pos_right hp (by omega)
    exact ⟨hf, g3, pos, sm _ (by simp), sm _ (by simp), sm _ (by simp), sm _ (by simp), sm _ (by simp), sm _ (by simp), sm _ (by simp)⟩
  · exact g2
theorem VOk.mono {k l : Nat} {v : Vl} (h : VOk k v) (e : k ≤ l) : VOk l v := ⟨h.form, h.co, h.pos, h.sa.mono e, h.sb.mono e, h.s1.mono e, h.s2.mono e, h.s3.mono e, h.s4.mono e, h.sp.mono e⟩
end Ev

/-! QL: polynomials as rows of numbers (trimmed, their values), links. -/
namespace Ev
open PySem L2
/-- without noughts at the end -/
def trimL : List Int → List Int
  | [] => []
  | x :: xs => match trimL xs with
    | [] => if x = 0 then [] else [x]
    | y :: r => x :: y :: r
theorem trim_cons {x : Int} {xs : List Int} (h : trimL xs ≠ []) : trimL (x :: xs) = x :: trimL xs := by
  rw [trimL]
  cases e : trimL xs with
  | nil => exact absurd e h
  | cons y r => rfl
theorem trim_nil {x : Int} {xs : List Int} (h : trimL xs = []) : trimL (x :: xs) = if x = 0 then [] else [x] := by rw [trimL, h]
theorem trim_zero : ∀ ys : List Int, trimL (ys ++ [0]) = trimL ys
  | [] => rfl
  | y :: ys => by
    rw [List.cons_append, trimL, trim_zero ys]
    rfl
theorem trim_end : ∀ (ys : List Int) {z : Int}, z ≠ 0 → trimL (ys ++ [z]) = ys ++ [z]
  | [], z, h => by simp [trimL, h]
  | y :: ys, z, h => by
    have e := trim_end ys h
    rw [List.cons_append, trim_cons (by rw [e]; simp), e]
theorem trim_idem : ∀ ys : List Int, trimL (trimL ys) = trimL ys
  | [] => rfl
  | y :: ys => by
    have ih := trim_idem ys
    by_cases h : trimL ys = []
    · rw [trim_nil h]
      by_cases h2 : y = 0
      · simp [h2, trimL]
      · simp [h2, trimL]
    · rw [trim_cons h, trim_cons (by rw [ih]; exact h), ih]
theorem trim_last : ∀ (ys : List Int) {zs : List Int} {z : Int}, trimL ys = zs ++ [z] → z ≠ 0
  | [], zs, z, h => by simp [trimL] at h
  | y :: ys, zs, z, h => by
    by_cases e : trimL ys = []
    · rw [trim_nil e] at h
      by_cases h2 : y = 0
      · simp [h2] at h
      · simp only [h2, if_false] at h
        have h4 := congrArg List.getLast? h
        simp at h4
        rw [← h4]
        exact h2
    · rw [trim_cons e] at h
      cases zs with
      | nil =>
        simp only [List.nil_append, List.cons.injEq] at h
        exact absurd h.2 e
      | cons w zs =>
        rw [List.cons_append] at h
        exact trim_last ys (List.cons.inj h).2
theorem trim_take : ∀ ys : List Int, trimL ys = ys.take (trimL ys).length
  | [] => rfl
  | y :: ys => by
    by_cases e : trimL ys = []
    · rw [trim_nil e]
      by_cases h2 : y = 0 <;> simp [h2]
    · rw [trim_cons e, List.length_cons, List.take_succ_cons, ← trim_take ys]
theorem trim_le (ys : List Int) : (trimL ys).length ≤ ys.length := by
  have h := congrArg List.length (trim_take ys)
  rw [List.length_take] at h
  omega
theorem trim_mem {ys : List Int} {x : Int} (h : x ∈ trimL ys) : x ∈ ys := by
  rw [trim_take ys] at h
  exact List.mem_of_mem_take h
/-- the value of a row at n/m, times a power of m -/
def nu : List Int → Int → Int → Int
  | [], _, _ => 0
  | x :: xs, n, m => nu xs n m * n + x * m ^ xs.length
theorem pow_sm {c : Nat} {m : Int} (h : Sm c m) : ∀ k : Nat, Sm (c * k + 1) (m ^ k)
  | 0 => by unfold Sm; simp
  | k + 1 => by
    rw [Int.pow_succ]
    exact ((pow_sm h k).mul h).mono (by rw [Nat.mul_succ]; omega)
theorem nu_sm {b c : Nat} {n m : Int} (hn : Sm c n) (hm : Sm c m) : ∀ {xs : List Int}, (∀ x ∈ xs, Sm b x) → Sm (b + xs.length * (c + 2)) (nu xs n m)
  | [], _ => Sm.zero.mono (Nat.zero_le _)
  | x :: xs, h => by
    have h1 := nu_sm hn hm fun y hy => h y (List.mem_cons_of_mem _ hy)
    have h2 := h x List.mem_cons_self
    have h3 := pow_sm hm xs.length
    rw [nu, List.length_cons]
    refine ((h1.mul hn).add (h2.mul h3)).mono ?_
    have e1 : (xs.length + 1) * (c + 2) = xs.length * (c + 2) + (c + 2) := Nat.succ_mul _ _
    have e2 : c * xs.length + 1 ≤ xs.length * (c + 2) + 1 := by rw [Nat.mul_comm c]; exact Nat.add_le_add_right (Nat.mul_le_mul_left _ (by omega)) _
    rw [e1]
    omega
/-- a ratio does not hang on a factor of both -/
theorem redL_same {g : Int} (hg : 0 < g) (ns : List Int) : redL (ns.map fun x => g * x) = redL ns := by
  unfold redL
  rw [gcL_mul (Int.le_of_lt hg), List.map_map]
  refine List.map_congr_left fun x hx => ?_
  show (g * x).fdiv (g * gcL ns) = x.fdiv (gcL ns)
  by_cases h0 : gcL ns = 0
  · rw [h0, Int.mul_zero, Int.fdiv_zero, Int.fdiv_zero]
  · obtain ⟨y, hy⟩ := gcL_dvd hx
    have nn := gcL_nn ns
    have e : ∀ d : Int, 0 < d → (d * y).fdiv d = y := fun d hd => by
      rw [Int.fdiv_eq_ediv_of_nonneg _ (Int.le_of_lt hd)]
      exact Int.mul_ediv_cancel_left _ (by omega)
    have hp : 0 < gcL ns := by omega
    have hq : 0 < g * gcL ns := Int.mul_pos hg hp
    generalize gcL ns = d at *
    rw [hy, e _ hp, show g * (d * y) = g * d * y by rw [Int.mul_assoc], e _ hq]
theorem redL_same2 {g : Int} (hg : 0 < g) (a b : Int) : redL [g * a, g * b] = redL [a, b] := redL_same hg [a, b]
/-- the value of a trimmed row, as a ratio -/
theorem nu_trim {m : Int} (hm : 0 < m) (n : Int) : ∀ xs : List Int, ∃ g : Int, 0 < g ∧ m ^ (xs.length - 1) = g * m ^ ((trimL xs).length - 1) ∧ nu xs n m = g * nu (trimL xs) n m
  | [] => ⟨1, by decide, by simp [trimL], by simp [trimL, nu]⟩
  | x :: xs => by
    obtain ⟨g, g0, g1, g2⟩ := nu_trim hm n xs
    by_cases e : trimL xs = []
    · rw [e] at g1 g2
      rw [trim_nil e]
      simp only [nu, Int.mul_zero] at g2
      have hp : ∀ k : Nat, 0 < m ^ k := fun k => Int.pow_pos hm
      by_cases h2 : x = 0
      · refine ⟨m ^ xs.length, hp _, by simp [h2], ?_⟩
        simp [h2, nu, g2]
      · refine ⟨m ^ xs.length, hp _, by simp [h2], ?_⟩
        simp [h2, nu, g2]
        exact Int.mul_comm _ _
    · rw [trim_cons e]
      refine ⟨g, g0, ?_, ?_⟩
      · have h1 : 0 < (trimL xs).length := by
          cases h : trimL xs with
          | nil => exact absurd h e
          | cons _ _ => simp
        have h2 := trim_le xs
        obtain ⟨p, hp⟩ : ∃ p, (trimL xs).length = p + 1 := ⟨_, (Nat.succ_pred_eq_of_pos h1).symm⟩
        obtain ⟨q, hq⟩ : ∃ q, xs.length = q + 1 := ⟨_, (Nat.succ_pred_eq_of_pos (Nat.lt_of_lt_of_le h1 h2)).symm⟩
        simp only [List.length_cons, hp, hq, Nat.add_sub_cancel] at g1 ⊢
        rw [Int.pow_succ, Int.pow_succ, g1]
        ac_rfl
      · have h1 : 0 < (trimL xs).length := by
          cases h : trimL xs with
          | nil => exact absurd h e
          | cons _ _ => simp
        have h2 := trim_le xs
        obtain ⟨p, hp⟩ : ∃ p, (trimL xs).length = p + 1 := ⟨_, (Nat.succ_pred_eq_of_pos h1).symm⟩
        obtain ⟨q, hq⟩ : ∃ q, xs.length = q + 1 := ⟨_, (Nat.succ_pred_eq_of_pos (Nat.lt_of_lt_of_le h1 h2)).symm⟩
        simp only [hp, hq, Nat.add_sub_cancel] at g1
        rw [nu, nu, g2, hp, hq, Int.pow_succ, Int.pow_succ, g1, Int.mul_add]
        ac_rfl
/-- links -/
structure Lk where
  f : Int
  x1 : Int
  y1 : Int
  x2 : Int
  y2 : Int
  x3 : Int
  y3 : Int
  l0 : Int
  l1 : Int
  l2 : Int
  l3 : Int
  p : Int
def Lk.d (l : Lk) : PyData := .tuple [.int l.f, .tuple [.int l.x1, .int l.y1], .tuple [.int l.x2, .int l.y2], .tuple [.int l.x3, .int l.y3], .tuple [.int l.l0, .int l.l1, .int l.l2, .int l.l3], .int l.p]
def Lk.ns (l : Lk) : List Int := [l.x1, l.y1, l.x2, l.y2, l.x3, l.y3, l.l0, l.l1, l.l2, l.l3, l.p]
structure LkOk (k : Nat) (l : Lk) : Prop where
  form : 1 ≤ l.f ∧ l.f ≤ 3
  co : gcL l.ns = 1
  pos : 0 < l.p
  sm : ∀ x ∈ l.ns, Sm k x
theorem LkOk.mono {k b : Nat} {l : Lk} (h : LkOk k l) (e : k ≤ b) : LkOk b l := ⟨h.form, h.co, h.pos, fun x hx => (h.sm x hx).mono e⟩
theorem lk_made {f : Int} (hf : 1 ≤ f ∧ f ≤ 3) {k : Nat} {x1 y1 x2 y2 x3 y3 l0 l1 l2 l3 p : Int} (hp : 0 < p) (h : ∀ x ∈ [x1, y1, x2, y2, x3, y3, l0, l1, l2, l3, p], Sm k x) :
    gcL [x1, y1, x2, y2, x3, y3, l0, l1, l2, l3, p] ≠ 0 ∧ Sm k (gcL [x1, y1, x2, y2, x3, y3, l0, l1, l2, l3, p]) ∧ ∃ (l : Lk) (g : Int), l.f = f ∧ 0 < g ∧ redL [x1, y1, x2, y2, x3, y3, l0, l1, l2, l3, p] = l.ns ∧ LkOk k l ∧ [x1, y1, x2, y2, x3, y3, l0, l1, l2, l3, p] = l.ns.map fun x => g * x := by
  have hg : gcL [x1, y1, x2, y2, x3, y3, l0, l1, l2, l3, p] ≠ 0 := fun e => by
    have := gcL_zero e p (by simp)
    omega
  obtain ⟨g1, g2, g3⟩ := red_spec hg
  have sm : ∀ x ∈ redL [x1, y1, x2, y2, x3, y3, l0, l1, l2, l3, p], Sm k x := fun x hx => red_sm hg hx h
  obtain ⟨a1, a2, a3, a4, a5, a6, a7, a8, a9, a10, a11, er⟩ : ∃ a1 a2 a3 a4 a5 a6 a7 a8 a9 a10 a11, redL [x1, y1, x2, y2, x3, y3, l0, l1, l2, l3, p] = [a1, a2, a3, a4, a5, a6, a7, a8, a9, a10, a11] := ⟨_, _, _, _, _, _, _, _, _, _, _, rfl⟩
  rw [er] at g2 g3 sm ⊢
  refine ⟨hg, gcL_sm h, ⟨f, a1, a2, a3, a4, a5, a6, a7, a8, a9, a10, a11⟩, gcL [x1, y1, x2, y2, x3, y3, l0, l1, l2, l3, p], rfl, g1, rfl, ?_, g2⟩
  have pos : 0 < a11 := by
    simp only [List.map_cons, List.map_nil, List.cons.injEq, and_true] at g2
    have := g2.2.2.2.2.2.2.2.2.2.2
    generalize gcL [x1, y1, x2, y2, x3, y3, l0, l1, l2, l3, p] = g at *
    rw [this] at hp
    exact Int.pos_of_mul_pos_right hp (by omega)
  exact ⟨hf, g3, pos, sm⟩
/-- the numbers of a link at n/m -/
def Lk.at7 (l : Lk) (n m : Int) : List Int := [m * m * l.x1 + n * m * l.x2 + n * n * l.x3, m * m * l.y1 + n * m * l.y2 + n * n * l.y3, m * m * l.l0, m * m * l.l1, m * m * l.l2, m * m * l.l3, m * m * l.p]
theorem lk_at {k c : Nat} {l : Lk} (h : LkOk k l) {n m : Int} (hm : 0 < m) (sn : Sm c n) (sm : Sm c m) : gcL (l.at7 n m) ≠ 0 ∧ Sm (c + c + k + 2) (gcL (l.at7 n m)) ∧ ∃ (v : Vl) (g : Int), v.f = l.f ∧ 0 < g ∧ redL (l.at7 n m) = v.ns ∧ VOk (c + c + k + 2) v ∧ l.at7 n m = v.ns.map fun x => g * x := by
  have hs := h.sm
  simp only [Lk.ns] at hs
  have mm := sm.mul sm
  have nm := sn.mul sm
  have nn := sn.mul sn
  have mix : ∀ {x y z : Int}, Sm k x → Sm k y → Sm k z → Sm (c + c + k + 2) (m * m * x + n * m * y + n * n * z) := fun hx hy hz => (((mm.mul hx).add (nm.mul hy)).add (nn.mul hz)).mono (by omega)
  have tim : ∀ {x : Int}, Sm k x → Sm (c + c + k + 2) (m * m * x) := fun hx => (mm.mul hx).mono (by omega)
  refine vl_made h.form (Int.mul_pos (Int.mul_pos hm hm) h.pos) fun z hz => ?_
  simp only [List.mem_cons, List.not_mem_nil, or_false] at hz
  rcases hz with rfl | rfl | rfl | rfl | rfl | rfl | rfl
  · exact mix (hs _ (by simp)) (hs _ (by simp)) (hs _ (by simp))
  · exact mix (hs _ (by simp)) (hs _ (by simp)) (hs _ (by simp))
  · exact tim (hs _ (by simp))
  · exact tim (hs _ (by simp))
  · exact tim (hs _ (by simp))
  · exact tim (hs _ (by simp))
  · exact tim (hs _ (by simp))
/-! ### items at the end -/
theorem at_end {ys : List D} {z : D} : atI (ys ++ [z]) (-1) = some z := by
  have e : ixN (ys ++ [z]).length (-1) = some ys.length := by
    unfold ixN
    rw [if_neg (by decide), if_pos (by simp; omega)]
    congr 1
    simp
    omega
  unfold atI
  rw [e]
  simp
theorem snoc_of {α : Type} : ∀ {xs : List α}, xs ≠ [] → ∃ ys z, xs = ys ++ [z]
  | [], h => absurd rfl h
  | [x], _ => ⟨[], x, rfl⟩
  | x :: y :: r, _ => by
    obtain ⟨ys, z, e⟩ := snoc_of (xs := y :: r) (by simp)
    exact ⟨x :: ys, z, by rw [e]; rfl⟩
theorem cut_from1 (xs : List D) : cutD xs (some 1) none = xs.drop 1 := by
  cases xs with
  | nil => rfl
  | cons x xs =>
    unfold cutD
    have e1 : HT.sIx (x :: xs).length 0 (some 1) = 1 := by
      unfold HT.sIx
      simp
      try omega
    have e2 : HT.sIx (x :: xs).length (x :: xs).length none = (x :: xs).length := rfl
    rw [e1, e2]
    simp
theorem sh_ints (ns : List Int) : sh (.tuple (ns.map PyData.int)) = true ∧ sh (.list (ns.map PyData.int)) = true := by
  have h1 : ∀ ns : List Int, PyData.canLayAll0 (ns.map PyData.int) = true := fun ns => by
    induction ns with
    | nil => rfl
    | cons x ns ih => simp [PyData.canLayAll0, PyData.canLay0, ih]
  have h2 : ∀ ns : List Int, PyData.depthAll (ns.map PyData.int) ≤ 1 := fun ns => by
    induction ns with
    | nil => simp [PyData.depthAll]
    | cons x ns ih => simp [PyData.depthAll, PyData.depth]; omega
  have := h1 ns
  have := h2 ns
  unfold sh SeqAt.shaped
  constructor <;> simp [PyData.canLay0, PyData.depth, *] <;> omega
theorem eq_nilT (ns : List Int) : cmpD .Eq (.tuple (ns.map PyData.int)) (.tuple []) = some (decide (ns = [])) := by
  have h : sh (.tuple ([] : List D)) = true := (sh_ints []).1
  show (if sh (.tuple (ns.map PyData.int)) = true ∧ sh (.tuple ([] : List D)) = true then some (PyData.eqv (.tuple (ns.map PyData.int)) (.tuple [])) else none) = _
  rw [if_pos ⟨(sh_ints ns).1, h⟩]
  cases ns <;> simp [PyData.eqv, PyData.eqvAll]
theorem ne_nilL (ns : List Int) : cmpD .NotEq (.list (ns.map PyData.int)) (.list []) = some (decide (ns ≠ [])) := by
  have h : sh (.list ([] : List D)) = true := (sh_ints []).2
  show (if sh (.list (ns.map PyData.int)) = true ∧ sh (.list ([] : List D)) = true then some (!PyData.eqv (.list (ns.map PyData.int)) (.list [])) else none) = _
  rw [if_pos ⟨(sh_ints ns).2, h⟩]
  cases ns <;> simp [PyData.eqv, PyData.eqvAll]
/-! ### rows and their repr -/
theorem rp_ints : ∀ {ns : List Int}, (∀ x ∈ ns, Sm 1900 x) → PyData.showableAll (ns.map PyData.int) = true ∧ PyData.hasDictAll (ns.map PyData.int) = false ∧ PyData.depthAll (ns.map PyData.int) = 0 ∧ cstAll (ns.map PyData.int) = 1923 * ns.length
  | [], _ => ⟨rfl, rfl, rfl, rfl⟩
  | x :: ns, h => by
    obtain ⟨a, b, c, d⟩ := rp_ints fun y hy => h y (List.mem_cons_of_mem _ hy)
    have l : x.natAbs.log2 < 1920 := (h x List.mem_cons_self).log (by decide) (by decide)
    refine ⟨?_, ?_, ?_, ?_⟩
    · simp [PyData.showableAll, PyData.showable, a, l]
    · simp [PyData.hasDictAll, PyData.hasDict, b]
    · simp [PyData.depthAll, PyData.depth, c]
    · simp only [List.map_cons, cstAll, cst, d, List.length_cons]; omega
theorem rp_iT {ns : List Int} (h : ∀ x ∈ ns, Sm 1900 x) (hl : ns.length ≤ 1000) : rpB (.tuple (ns.map PyData.int)) = true := by
  obtain ⟨a, b, c, d⟩ := rp_ints h
  simp [rpB, PyData.showable, PyData.hasDict, PyData.depth, cst, a, b, c, d, sizeL]
  omega
theorem rp_iTT {ns ms : List Int} (h : ∀ x ∈ ns, Sm 1900 x) (hl : ns.length ≤ 1000) (h2 : ∀ x ∈ ms, Sm 1900 x) (hl2 : ms.length ≤ 1000) : rpB (.tuple [.tuple (ns.map PyData.int), .tuple (ms.map PyData.int)]) = true := by
  obtain ⟨a, b, c, d⟩ := rp_ints h
  obtain ⟨a2, b2, c2, d2⟩ := rp_ints h2
  simp [rpB, PyData.showable, PyData.showableAll, PyData.hasDict, PyData.hasDictAll, PyData.depth, PyData.depthAll, cst, cstAll, a, b, c, d, a2, b2, c2, d2, sizeL]
  omega
theorem red_pair {a b : Int} {k : Nat} (hb : b ≠ 0) (ha : Sm k a) (hb2 : Sm k b) : ∃ p q, redL [a, b] = [p, q] ∧ Sm k p ∧ Sm k q := by
  have h0 : gcL [a, b] ≠ 0 := fun e => hb (gcL_zero e b (by simp))
  have sm : ∀ x ∈ redL [a, b], Sm k x := fun x hx => red_sm h0 hx fun y hy => by
    simp only [List.mem_cons, List.not_mem_nil, or_false] at hy
    rcases hy with rfl | rfl <;> assumption
  exact ⟨_, _, rfl, sm _ (by simp [redL]), sm _ (by simp [redL])⟩
/-- a value by powers and by Horner's way -/
theorem val_same {m : Int} (hm : 0 < m) (n x y z : Int) : redL [nu (trimL [x, y, z]) n m, m ^ ((trimL [x, y, z]).length - 1)] = redL [m * m * x + n * m * y + n * n * z, m * m] := by
  obtain ⟨g, g0, g1, g2⟩ := nu_trim hm n [x, y, z]
  have e1 : nu [x, y, z] n m = m * m * x + n * m * y + n * n * z := by
    simp only [nu, List.length_cons, List.length_nil, Int.zero_mul, Int.zero_add, Int.pow_succ, Int.pow_zero, Int.one_mul, Int.mul_one, Nat.reduceAdd]
    grind
  have e2 : m ^ ([x, y, z].length - 1) = m * m := by
    simp [Int.pow_succ]
  rw [← e1, ← e2, g1, g2]
  exact (redL_same2 g0 _ _).symm
end Ev

/-! QF: rows of numbers added and multiplied. -/
namespace Ev
open PySem L2
/-- a row as a list or as a tuple -/
def rwD (t : Bool) (xs : List Int) : PyData := if t then .tuple (xs.map .int) else .list (xs.map .int)
theorem zipWith_zip {α β γ : Type} (f : α → β → γ) : ∀ (xs : List α) (ys : List β), List.zipWith f xs ys = (xs.zip ys).map fun p => f p.1 p.2
  | [], _ => rfl
  | _ :: _, [] => rfl
  | x :: xs, y :: ys => by rw [List.zipWith_cons_cons, List.zip_cons_cons, List.map_cons, zipWith_zip f xs ys]
def padL (xs : List Int) (n : Nat) : List Int := xs ++ List.replicate (n - xs.length) 0
theorem pad_len {xs : List Int} {n : Nat} (h : xs.length ≤ n) : (padL xs n).length = n := by
  unfold padL
  simp
  omega
def addL (xs ys : List Int) : List Int := List.zipWith (· + ·) (padL xs (max xs.length ys.length)) (padL ys (max xs.length ys.length))
def sumL (xs ys : List Int) : List Int := trimL (addL xs ys)
theorem pad_sm {xs : List Int} {n k : Nat} (h : ∀ x ∈ xs, Sm k x) : ∀ x ∈ padL xs n, Sm k x := fun x hx => by
  unfold padL at hx
  rcases List.mem_append.mp hx with hx | hx
  · exact h x hx
  · rw [(List.mem_replicate.mp hx).2]
    exact Sm.zero.mono (Nat.zero_le _)
theorem add_sm {xs ys : List Int} {k l : Nat} (h : ∀ x ∈ xs, Sm k x) (g : ∀ y ∈ ys, Sm l y) : ∀ z ∈ addL xs ys, Sm (max k l + 1) z := fun z hz => by
  unfold addL at hz
  rw [zipWith_zip] at hz
  obtain ⟨⟨x, y⟩, h1, rfl⟩ := List.mem_map.mp hz
  obtain ⟨h2, h3⟩ := List.of_mem_zip h1
  exact (pad_sm h x h2).add (pad_sm g y h3)
theorem add_len (xs ys : List Int) : (addL xs ys).length = max xs.length ys.length := by
  unfold addL
  rw [List.length_zipWith, pad_len (by omega), pad_len (by omega)]
  omega
theorem sum_sm {xs ys : List Int} {k l : Nat} (h : ∀ x ∈ xs, Sm k x) (g : ∀ y ∈ ys, Sm l y) : ∀ z ∈ sumL xs ys, Sm (max k l + 1) z := fun z hz => add_sm h g z (trim_mem hz)
theorem sum_len (xs ys : List Int) : (sumL xs ys).length ≤ max xs.length ys.length := by
  have := trim_le (addL xs ys)
  rw [add_len] at this
  exact this
/-- the law's row of sums -/
theorem add_ix (xs ys : List Int) : ∀ k < max xs.length ys.length, ∃ a b, (padL xs (max xs.length ys.length))[k]? = some a ∧ (padL ys (max xs.length ys.length))[k]? = some b ∧ (addL xs ys)[k]? = some (a + b) := fun k hk => by
  have h1 : k < (padL xs (max xs.length ys.length)).length := by rw [pad_len (by omega)]; exact hk
  have h2 : k < (padL ys (max xs.length ys.length)).length := by rw [pad_len (by omega)]; exact hk
  refine ⟨_, _, List.getElem?_eq_getElem h1, List.getElem?_eq_getElem h2, ?_⟩
  unfold addL
  rw [List.getElem?_zipWith, List.getElem?_eq_getElem h1, List.getElem?_eq_getElem h2]
theorem add_range (xs ys : List Int) : (List.range (max xs.length ys.length)).map (fun k => (padL xs (max xs.length ys.length)).getD k 0 + 1 * (padL ys (max xs.length ys.length)).getD k 0) = addL xs ys := by
  refine List.ext_getElem? fun k => ?_
  rw [List.getElem?_map]
  by_cases hk : k < max xs.length ys.length
  · obtain ⟨a, b, h1, h2, h3⟩ := add_ix xs ys k hk
    rw [List.getElem?_range hk, h3]
    simp only [Option.map_some, List.getD_eq_getElem?_getD, h1, h2, Option.getD_some, Int.one_mul]
  · have h1 : (List.range (max xs.length ys.length))[k]? = none := List.getElem?_eq_none (by rw [List.length_range]; omega)
    have h2 : (addL xs ys)[k]? = none := List.getElem?_eq_none (by rw [add_len]; omega)
    rw [h1, h2]
    rfl
/-! ### products -/
def add1 (acc : List Int) (i : Nat) (v : Int) : List Int := acc.set i (acc.getD i 0 + v)
def rowL (x : Int) : List Int → Nat → List Int → List Int
  | acc, _, [] => acc
  | acc, i, y :: ys => rowL x (add1 acc i (x * y)) (i + 1) ys
def mulA (ys : List Int) : List Int → Nat → List Int → List Int
  | acc, _, [] => acc
  | acc, i, x :: xs => mulA ys (rowL x acc i ys) (i + 1) xs
def mulL (xs ys : List Int) : List Int := trimL (mulA ys (List.replicate (xs.length + ys.length) 0) 0 xs)
theorem add1_len (acc : List Int) (i : Nat) (v : Int) : (add1 acc i v).length = acc.length := by unfold add1; rw [List.length_set]
theorem rowL_len (x : Int) : ∀ (ys acc : List Int) (i : Nat), (rowL x acc i ys).length = acc.length
  | [], acc, i => rfl
  | y :: ys, acc, i => by rw [rowL, rowL_len x ys, add1_len]
theorem mulA_len (ys : List Int) : ∀ (xs acc : List Int) (i : Nat), (mulA ys acc i xs).length = acc.length
  | [], acc, i => rfl
  | x :: xs, acc, i => by rw [mulA, mulA_len ys xs, rowL_len]
theorem mul_len (xs ys : List Int) : (mulL xs ys).length ≤ xs.length + ys.length := by
  have := trim_le (mulA ys (List.replicate (xs.length + ys.length) 0) 0 xs)
  rw [mulA_len, List.length_replicate] at this
  exact this
/-- the numbers' bound: c products of at most P -/
def BndP (P c : Nat) (acc : List Int) : Prop := ∀ z ∈ acc, z.natAbs ≤ c * P
theorem add1_bnd {P c : Nat} {acc : List Int} (h : BndP P c acc) (i : Nat) {v : Int} (hv : v.natAbs ≤ P) : BndP P (c + 1) (add1 acc i v) := fun z hz => by
  have e : (c + 1) * P = c * P + P := Nat.succ_mul _ _
  rcases List.mem_or_eq_of_mem_set hz with hz | rfl
  · have := h z hz
    omega
  · have hg : (acc.getD i 0).natAbs ≤ c * P := by
      rw [List.getD_eq_getElem?_getD]
      cases hi : acc[i]? with
      | none => simp
      | some w => simpa using h w (List.mem_of_getElem? hi)
    have := Int.natAbs_add_le (acc.getD i 0) v
    omega
theorem rowL_bnd {P : Nat} {x : Int} : ∀ {ys acc : List Int} {c : Nat} (i : Nat), BndP P c acc → (∀ y ∈ ys, (x * y).natAbs ≤ P) → BndP P (c + ys.length) (rowL x acc i ys)
  | [], acc, c, i, h, _ => h
  | y :: ys, acc, c, i, h, g => by
    rw [rowL, List.length_cons, show c + (ys.length + 1) = c + 1 + ys.length by omega]
    exact rowL_bnd (i + 1) (add1_bnd h i (g y List.mem_cons_self)) fun w hw => g w (List.mem_cons_of_mem _ hw)
theorem mulA_bnd {P : Nat} {ys : List Int} : ∀ {xs acc : List Int} {c : Nat} (i : Nat), BndP P c acc → (∀ x ∈ xs, ∀ y ∈ ys, (x * y).natAbs ≤ P) → BndP P (c + xs.length * ys.length) (mulA ys acc i xs)
  | [], acc, c, i, h, _ => by rw [List.length_nil, Nat.zero_mul]; exact h
  | x :: xs, acc, c, i, h, g => by
    rw [mulA, List.length_cons, Nat.succ_mul, show c + (xs.length * ys.length + ys.length) = c + ys.length + xs.length * ys.length by omega]
    exact mulA_bnd (i + 1) (rowL_bnd i h (g x List.mem_cons_self)) fun w hw => g w (List.mem_cons_of_mem _ hw)
theorem mul_sm {xs ys : List Int} {k l : Nat} (h : ∀ x ∈ xs, Sm k x) (g : ∀ y ∈ ys, Sm l y) (hl : xs.length * ys.length < 256) : ∀ z ∈ mulL xs ys, Sm (k + l + 8) z := fun z hz => by
  have b0 : BndP (2 ^ (k + l)) 0 (List.replicate (xs.length + ys.length) 0) := fun w hw => by
    rw [(List.mem_replicate.mp hw).2]
    simp
  have := mulA_bnd (ys := ys) (xs := xs) 0 b0 (fun x hx y hy => by
    have := (h x hx).mul (g y hy)
    unfold Sm at this
    omega) z (trim_mem hz)
  rw [Nat.zero_add] at this
  have h2 : xs.length * ys.length * 2 ^ (k + l) ≤ 255 * 2 ^ (k + l) := Nat.mul_le_mul_right _ (by omega)
  have h3 : (2 : Nat) ^ (k + l + 8) = 256 * 2 ^ (k + l) := by rw [Nat.pow_add]; omega
  have h4 : 0 < (2 : Nat) ^ (k + l) := Nat.pow_pos (by decide)
  unfold Sm
  omega
/-! ### what is walked -/
def enF : Nat → List Int → List D
  | _, [] => []
  | b, y :: ys => .tuple [.int (b : Int), .int y] :: enF (b + 1) ys
theorem enF_get : ∀ (ys : List Int) (b i : Nat), (enF b ys)[i]? = ys[i]?.map fun y => PyData.tuple [.int ((b + i : Nat) : Int), .int y]
  | [], b, i => rfl
  | y :: ys, b, 0 => rfl
  | y :: ys, b, i + 1 => by
    rw [enF, List.getElem?_cons_succ, List.getElem?_cons_succ, enF_get ys (b + 1) i, show b + 1 + i = b + (i + 1) by omega]
theorem enum_ints (ys : List Int) : enumD (ys.map PyData.int) = enF 0 ys := by
  refine List.ext_getElem? fun i => ?_
  rw [enF_get, Nat.zero_add]
  show ((List.range (ys.map PyData.int).length).zipWith (fun (i : Nat) (d : D) => PyData.tuple [.int (i : Int), d]) (ys.map PyData.int))[i]? = _
  rw [List.getElem?_zipWith, List.getElem?_map]
  by_cases h : i < ys.length
  · rw [List.getElem?_range (by rw [List.length_map]; exact h), List.getElem?_eq_getElem h]
    rfl
  · rw [List.getElem?_eq_none (l := ys) (by omega)]
    cases (List.range (ys.map PyData.int).length)[i]? <;> rfl
theorem zip_ints : ∀ xs ys : List Int, zipD (xs.map PyData.int) (ys.map PyData.int) = (xs.zip ys).map fun p => PyData.tuple [.int p.1, .int p.2]
  | [], _ => rfl
  | _ :: _, [] => rfl
  | x :: xs, y :: ys => by
    have := zip_ints xs ys
    unfold zipD at this ⊢
    rw [List.map_cons, List.map_cons, List.zipWith_cons_cons, List.zip_cons_cons, List.map_cons, this]
end Ev

namespace My
open PySem L2 Ev Tb
variable {T : Tab} [Tb T]
theorem s_is_whole (n : Nat) (v : D) (S : Sto) : call T (n + 1) 0 [.d v] S = .ok (.d (.bool (isiD .int v && !isiD .bool v))) S := by
  rw [call_at t_0 ⟨rfl, by decide⟩]
  cases v <;> simp [c_0, i_zip3, k_z3, k_z3b, k_z3c, z3_cons, z3_nil, k_enT, k_o1r, e_op1, e_op2, e_comp2, k_o1, k_o2, k_o2b, k_db, k_db2, k_dbT, k_dbI1, k_dbI0, k_db1, k_dbN, k_dbM, d_nil, d_cons, i_enum, i_zip, i_rev, k_enL, k_zi, k_ziL, k_ziT, k_rvL, k_rvT, e_var, k_var, x_aug, k_au, k_me, e_con, e_bin, e_neg, e_not, e_and, e_or, e_cmp, e_cmp2, e_ite, e_call, e_callk, e_blt, e_isi, e_idx, e_sl, e_tup, e_lst, e_comp, e_meth, es_nil, es_cons, if_nil, if_cons, o_none, o_some, i_ex, i_r1, i_r2, g_name, g_sub, g_tup, g_tupL, gs_nil, gs_cons, x_asg, x_par, x_ex, x_ret, x_ifs, x_for, x_whl, x_pass, x_brk, x_cont, xs_nil, xs_cons, k_bin, k_bin2, k_neg, k_not, k_not2, k_and, k_and1, k_and0, k_or, k_or1, k_or0, k_cmp, k_cmp2, k_cmp3, k_c2, k_c2b, k_c2t, k_c2f, k_ite, k_ite1, k_ite0, k_call, k_ck, k_ck2, k_blt, k_isi, k_idx, k_idx2, k_sl, k_sl2, k_sl3, k_tup, k_tup2, k_lst, k_lst2, f_nil, f_cons, f_d, k_fz, k_fz2, k_comp, k_comp2, k_me2, k_es, k_es2, k_if, k_if1, k_if0, k_o, k_iL, k_iT, k_iK, k_r1, k_r2, k_r2b, k_sb, k_sb2, k_sb3, k_ts, k_as, k_as2, k_par, k_aug, k_aug2, k_ex, k_ret1, k_ret0, k_ret2, k_ifs, k_ifs1, k_ifs0, k_for, k_fo, k_foN, k_foC, k_foB, k_foR, k_sqN, k_sqC, k_sqB, k_sqR, k_fin, fin_d, fin_nx, c_nil, c_cons, k_cs, k_cs1, k_cs0, k_cs3, k_cs4, k_cs5, fo_nil, fo_cons, sizeL, evT, rb_ok, rb_no, q_add, q_sub, q_cmp, q_lt, q_le, q_gt, q_ge, q_eqI, q_neI, q_eqS, q_neS, q_isB, q_notB, q_isN, q_notN, q_truB, q_truI, q_truL, q_truT, q_truN, q_ixT, q_ixL, q_ixK, q_der, q_at0, q_at1, q_at2, q_at3, q_mkf, q_mkt, q_ixR, k_ixR, k_ix2, q_stR, k_stR, k_st2, q_slK, q_slL, fin_new, take_set, List.set_set, List.length_set, k_sqD0, ix30, ix31, ix32, b_lenL, b_lenT, b_lenK, b_int, b_intB, b_boolI, b_abs, b_max, b_min, b_tupL, b_tupT, b_gcd, b_listL, b_listT, b_listK, b_all, b_any, b_sum, asBools, asInts, Option.map_some, Option.map_none, isiD, List.map_cons, List.map_nil, List.cons_append, List.nil_append, List.append_nil, List.length_cons, List.length_nil, List.getElem?_cons_zero, List.getElem?_cons_succ, List.set_cons_zero, List.set_cons_succ, List.replicate, List.replicate_zero, List.replicate_succ, List.take_length, List.take_succ_cons, Nat.sub_self, setAll, if_true, if_false, Bool.false_eq_true, Nat.reduceAdd, Nat.reduceSub, Nat.reduceLeDiff, Nat.reduceLT, permU, List.filterMap_cons, List.filterMap_nil, wipeE]
theorem asBools_true {α : Type} : ∀ xs : List α, asBools (xs.map fun _ => PyData.bool true) = some (xs.map fun _ => true)
  | [] => (rfl)
  | _ :: xs => by rw [List.map_cons, asBools, asBools_true xs]; rfl
theorem s_are_wholes (n : Nat) (ns : List Int) (m : Int) (S : Sto) (h : ns.length < 16777216) : call T (n + 2) 1 [.d (.tuple (ns.map PyData.int)), .d (.int m)] S = .ok (.d (.bool (decide ((ns.length : Int) = m)))) S := by
  rw [call_at t_1 ⟨rfl, by decide⟩]
  by_cases c : (ns.length : Int) = m
  · have e : ∀ (a b o : Option U), compE (call T (n + 1)) [a, b, o] [2] (.name 2) .nil (.call 0 (.cons (.var 2) .nil)) [] (ns.map PyData.int) S = .ok (ns.map fun _ => PyData.bool true) S := fun a b o =>
      c_all PyData.int (fun _ => PyData.bool true) ns fun x _ => ⟨[a, b, some (.d (.int x))], by simp only [i_zip3, k_z3, k_z3b, k_z3c, z3_cons, z3_nil, k_enT, k_o1r, e_op1, e_op2, e_comp2, k_o1, k_o2, k_o2b, k_db, k_db2, k_dbT, k_dbI1, k_dbI0, k_db1, k_dbN, k_dbM, d_nil, d_cons, i_enum, i_zip, i_rev, k_enL, k_zi, k_ziL, k_ziT, k_rvL, k_rvT, e_var, k_var, x_aug, k_au, k_me, e_con, e_bin, e_neg, e_not, e_and, e_or, e_cmp, e_cmp2, e_ite, e_call, e_callk, e_blt, e_isi, e_idx, e_sl, e_tup, e_lst, e_comp, e_meth, es_nil, es_cons, if_nil, if_cons, o_none, o_some, i_ex, i_r1, i_r2, g_name, g_sub, g_tup, g_tupL, gs_nil, gs_cons, x_asg, x_par, x_ex, x_ret, x_ifs, x_for, x_whl, x_pass, x_brk, x_cont, xs_nil, xs_cons, k_bin, k_bin2, k_neg, k_not, k_not2, k_and, k_and1, k_and0, k_or, k_or1, k_or0, k_cmp, k_cmp2, k_cmp3, k_c2, k_c2b, k_c2t, k_c2f, k_ite, k_ite1, k_ite0, k_call, k_ck, k_ck2, k_blt, k_isi, k_idx, k_idx2, k_sl, k_sl2, k_sl3, k_tup, k_tup2, k_lst, k_lst2, f_nil, f_cons, f_d, k_fz, k_fz2, k_comp, k_comp2, k_me2, k_es, k_es2, k_if, k_if1, k_if0, k_o, k_iL, k_iT, k_iK, k_r1, k_r2, k_r2b, k_sb, k_sb2, k_sb3, k_ts, k_as, k_as2, k_par, k_aug, k_aug2, k_ex, k_ret1, k_ret0, k_ret2, k_ifs, k_ifs1, k_ifs0, k_for, k_fo, k_foN, k_foC, k_foB, k_foR, k_sqN, k_sqC, k_sqB, k_sqR, k_fin, fin_d, fin_nx, c_nil, c_cons, k_cs, k_cs1, k_cs0, k_cs3, k_cs4, k_cs5, fo_nil, fo_cons, sizeL, evT, rb_ok, rb_no, q_add, q_sub, q_cmp, q_lt, q_le, q_gt, q_ge, q_eqI, q_neI, q_eqS, q_neS, q_isB, q_notB, q_isN, q_notN, q_truB, q_truI, q_truL, q_truT, q_truN, q_ixT, q_ixL, q_ixK, q_der, q_at0, q_at1, q_at2, q_at3, q_mkf, q_mkt, q_ixR, k_ixR, k_ix2, q_stR, k_stR, k_st2, q_slK, q_slL, fin_new, take_set, List.set_set, List.length_set, k_sqD0, ix30, ix31, ix32, b_lenL, b_lenT, b_lenK, b_int, b_intB, b_boolI, b_abs, b_max, b_min, b_tupL, b_tupT, b_gcd, b_listL, b_listT, b_listK, b_all, b_any, b_sum, asBools, asInts, Option.map_some, Option.map_none, isiD, List.map_cons, List.map_nil, List.cons_append, List.nil_append, List.append_nil, List.length_cons, List.length_nil, List.getElem?_cons_zero, List.getElem?_cons_succ, List.set_cons_zero, List.set_cons_succ, List.replicate, List.replicate_zero, List.replicate_succ, List.take_length, List.take_succ_cons, Nat.sub_self, setAll, if_true, if_false, Bool.false_eq_true, Nat.reduceAdd, Nat.reduceSub, Nat.reduceLeDiff, Nat.reduceLT, permU, List.filterMap_cons, List.filterMap_nil, wipeE], by simp only [i_zip3, k_z3, k_z3b, k_z3c, z3_cons, z3_nil, k_enT, k_o1r, e_op1, e_op2, e_comp2, k_o1, k_o2, k_o2b, k_db, k_db2, k_dbT, k_dbI1, k_dbI0, k_db1, k_dbN, k_dbM, d_nil, d_cons, i_enum, i_zip, i_rev, k_enL, k_zi, k_ziL, k_ziT, k_rvL, k_rvT, e_var, k_var, x_aug, k_au, k_me, e_con, e_bin, e_neg, e_not, e_and, e_or, e_cmp, e_cmp2, e_ite, e_call, e_callk, e_blt, e_isi, e_idx, e_sl, e_tup, e_lst, e_comp, e_meth, es_nil, es_cons, if_nil, if_cons, o_none, o_some, i_ex, i_r1, i_r2, g_name, g_sub, g_tup, g_tupL, gs_nil, gs_cons, x_asg, x_par, x_ex, x_ret, x_ifs, x_for, x_whl, x_pass, x_brk, x_cont, xs_nil, xs_cons, k_bin, k_bin2, k_neg, k_not, k_not2, k_and, k_and1, k_and0, k_or, k_or1, k_or0, k_cmp, k_cmp2, k_cmp3, k_c2, k_c2b, k_c2t, k_c2f, k_ite, k_ite1, k_ite0, k_call, k_ck, k_ck2, k_blt, k_isi, k_idx, k_idx2, k_sl, k_sl2, k_sl3, k_tup, k_tup2, k_lst, k_lst2, f_nil, f_cons, f_d, k_fz, k_fz2, k_comp, k_comp2, k_me2, k_es, k_es2, k_if, k_if1, k_if0, k_o, k_iL, k_iT, k_iK, k_r1, k_r2, k_r2b, k_sb, k_sb2, k_sb3, k_ts, k_as, k_as2, k_par, k_aug, k_aug2, k_ex, k_ret1, k_ret0, k_ret2, k_ifs, k_ifs1, k_ifs0, k_for, k_fo, k_foN, k_foC, k_foB, k_foR, k_sqN, k_sqC, k_sqB, k_sqR, k_fin, fin_d, fin_nx, c_nil, c_cons, k_cs, k_cs1, k_cs0, k_cs3, k_cs4, k_cs5, fo_nil, fo_cons, sizeL, evT, rb_ok, rb_no, q_add, q_sub, q_cmp, q_lt, q_le, q_gt, q_ge, q_eqI, q_neI, q_eqS, q_neS, q_isB, q_notB, q_isN, q_notN, q_truB, q_truI, q_truL, q_truT, q_truN, q_ixT, q_ixL, q_ixK, q_der, q_at0, q_at1, q_at2, q_at3, q_mkf, q_mkt, q_ixR, k_ixR, k_ix2, q_stR, k_stR, k_st2, q_slK, q_slL, fin_new, take_set, List.set_set, List.length_set, k_sqD0, ix30, ix31, ix32, b_lenL, b_lenT, b_lenK, b_int, b_intB, b_boolI, b_abs, b_max, b_min, b_tupL, b_tupT, b_gcd, b_listL, b_listT, b_listK, b_all, b_any, b_sum, asBools, asInts, Option.map_some, Option.map_none, isiD, List.map_cons, List.map_nil, List.cons_append, List.nil_append, List.append_nil, List.length_cons, List.length_nil, List.getElem?_cons_zero, List.getElem?_cons_succ, List.set_cons_zero, List.set_cons_succ, List.replicate, List.replicate_zero, List.replicate_succ, List.take_length, List.take_succ_cons, Nat.sub_self, setAll, if_true, if_false, Bool.false_eq_true, Nat.reduceAdd, Nat.reduceSub, Nat.reduceLeDiff, Nat.reduceLT, permU, List.filterMap_cons, List.filterMap_nil, wipeE, s_is_whole, Bool.not_false, Bool.and_true]⟩
    simp only [c_1, i_zip3, k_z3, k_z3b, k_z3c, z3_cons, z3_nil, k_enT, k_o1r, e_op1, e_op2, e_comp2, k_o1, k_o2, k_o2b, k_db, k_db2, k_dbT, k_dbI1, k_dbI0, k_db1, k_dbN, k_dbM, d_nil, d_cons, i_enum, i_zip, i_rev, k_enL, k_zi, k_ziL, k_ziT, k_rvL, k_rvT, e_var, k_var, x_aug, k_au, k_me, e_con, e_bin, e_neg, e_not, e_and, e_or, e_cmp, e_cmp2, e_ite, e_call, e_callk, e_blt, e_isi, e_idx, e_sl, e_tup, e_lst, e_comp, e_meth, es_nil, es_cons, if_nil, if_cons, o_none, o_some, i_ex, i_r1, i_r2, g_name, g_sub, g_tup, g_tupL, gs_nil, gs_cons, x_asg, x_par, x_ex, x_ret, x_ifs, x_for, x_whl, x_pass, x_brk, x_cont, xs_nil, xs_cons, k_bin, k_bin2, k_neg, k_not, k_not2, k_and, k_and1, k_and0, k_or, k_or1, k_or0, k_cmp, k_cmp2, k_cmp3, k_c2, k_c2b, k_c2t, k_c2f, k_ite, k_ite1, k_ite0, k_call, k_ck, k_ck2, k_blt, k_isi, k_idx, k_idx2, k_sl, k_sl2, k_sl3, k_tup, k_tup2, k_lst, k_lst2, f_nil, f_cons, f_d, k_fz, k_fz2, k_comp, k_comp2, k_me2, k_es, k_es2, k_if, k_if1, k_if0, k_o, k_iL, k_iT, k_iK, k_r1, k_r2, k_r2b, k_sb, k_sb2, k_sb3, k_ts, k_as, k_as2, k_par, k_aug, k_aug2, k_ex, k_ret1, k_ret0, k_ret2, k_ifs, k_ifs1, k_ifs0, k_for, k_fo, k_foN, k_foC, k_foB, k_foR, k_sqN, k_sqC, k_sqB, k_sqR, k_fin, fin_d, fin_nx, c_nil, c_cons, k_cs, k_cs1, k_cs0, k_cs3, k_cs4, k_cs5, fo_nil, fo_cons, sizeL, evT, rb_ok, rb_no, q_add, q_sub, q_cmp, q_lt, q_le, q_gt, q_ge, q_eqI, q_neI, q_eqS, q_neS, q_isB, q_notB, q_isN, q_notN, q_truB, q_truI, q_truL, q_truT, q_truN, q_ixT, q_ixL, q_ixK, q_der, q_at0, q_at1, q_at2, q_at3, q_mkf, q_mkt, q_ixR, k_ixR, k_ix2, q_stR, k_stR, k_st2, q_slK, q_slL, fin_new, take_set, List.set_set, List.length_set, k_sqD0, ix30, ix31, ix32, b_lenL, b_lenT, b_lenK, b_int, b_intB, b_boolI, b_abs, b_max, b_min, b_tupL, b_tupT, b_gcd, b_listL, b_listT, b_listK, b_all, b_any, b_sum, asBools, asInts, Option.map_some, Option.map_none, isiD, List.map_cons, List.map_nil, List.cons_append, List.nil_append, List.append_nil, List.length_cons, List.length_nil, List.getElem?_cons_zero, List.getElem?_cons_succ, List.set_cons_zero, List.set_cons_succ, List.replicate, List.replicate_zero, List.replicate_succ, List.take_length, List.take_succ_cons, Nat.sub_self, setAll, if_true, if_false, Bool.false_eq_true, Nat.reduceAdd, Nat.reduceSub, Nat.reduceLeDiff, Nat.reduceLT, permU, List.filterMap_cons, List.filterMap_nil, wipeE, List.length_map, c, decide_true, h, e, asBools_true]
    simp
  · simp only [c_1, i_zip3, k_z3, k_z3b, k_z3c, z3_cons, z3_nil, k_enT, k_o1r, e_op1, e_op2, e_comp2, k_o1, k_o2, k_o2b, k_db, k_db2, k_dbT, k_dbI1, k_dbI0, k_db1, k_dbN, k_dbM, d_nil, d_cons, i_enum, i_zip, i_rev, k_enL, k_zi, k_ziL, k_ziT, k_rvL, k_rvT, e_var, k_var, x_aug, k_au, k_me, e_con, e_bin, e_neg, e_not, e_and, e_or, e_cmp, e_cmp2, e_ite, e_call, e_callk, e_blt, e_isi, e_idx, e_sl, e_tup, e_lst, e_comp, e_meth, es_nil, es_cons, if_nil, if_cons, o_none, o_some, i_ex, i_r1, i_r2, g_name, g_sub, g_tup, g_tupL, gs_nil, gs_cons, x_asg, x_par, x_ex, x_ret, x_ifs, x_for, x_whl, x_pass, x_brk, x_cont, xs_nil, xs_cons, k_bin, k_bin2, k_neg, k_not, k_not2, k_and, k_and1, k_and0, k_or, k_or1, k_or0, k_cmp, k_cmp2, k_cmp3, k_c2, k_c2b, k_c2t, k_c2f, k_ite, k_ite1, k_ite0, k_call, k_ck, k_ck2, k_blt, k_isi, k_idx, k_idx2, k_sl, k_sl2, k_sl3, k_tup, k_tup2, k_lst, k_lst2, f_nil, f_cons, f_d, k_fz, k_fz2, k_comp, k_comp2, k_me2, k_es, k_es2, k_if, k_if1, k_if0, k_o, k_iL, k_iT, k_iK, k_r1, k_r2, k_r2b, k_sb, k_sb2, k_sb3, k_ts, k_as, k_as2, k_par, k_aug, k_aug2, k_ex, k_ret1, k_ret0, k_ret2, k_ifs, k_ifs1, k_ifs0, k_for, k_fo, k_foN, k_foC, k_foB, k_foR, k_sqN, k_sqC, k_sqB, k_sqR, k_fin, fin_d, fin_nx, c_nil, c_cons, k_cs, k_cs1, k_cs0, k_cs3, k_cs4, k_cs5, fo_nil, fo_cons, sizeL, evT, rb_ok, rb_no, q_add, q_sub, q_cmp, q_lt, q_le, q_gt, q_ge, q_eqI, q_neI, q_eqS, q_neS, q_isB, q_notB, q_isN, q_notN, q_truB, q_truI, q_truL, q_truT, q_truN, q_ixT, q_ixL, q_ixK, q_der, q_at0, q_at1, q_at2, q_at3, q_mkf, q_mkt, q_ixR, k_ixR, k_ix2, q_stR, k_stR, k_st2, q_slK, q_slL, fin_new, take_set, List.set_set, List.length_set, k_sqD0, ix30, ix31, ix32, b_lenL, b_lenT, b_lenK, b_int, b_intB, b_boolI, b_abs, b_max, b_min, b_tupL, b_tupT, b_gcd, b_listL, b_listT, b_listK, b_all, b_any, b_sum, asBools, asInts, Option.map_some, Option.map_none, isiD, List.map_cons, List.map_nil, List.cons_append, List.nil_append, List.append_nil, List.length_cons, List.length_nil, List.getElem?_cons_zero, List.getElem?_cons_succ, List.set_cons_zero, List.set_cons_succ, List.replicate, List.replicate_zero, List.replicate_succ, List.take_length, List.take_succ_cons, Nat.sub_self, setAll, if_true, if_false, Bool.false_eq_true, Nat.reduceAdd, Nat.reduceSub, Nat.reduceLeDiff, Nat.reduceLT, permU, List.filterMap_cons, List.filterMap_nil, wipeE, List.length_map, c, decide_false]
theorem gcL2 (a b : Int) : gcL [a, b] = gc a b := by simp [gcL, gc]
theorem s_is_ratio (n : Nat) (a b : Int) (S : Sto) (hb : 0 < b) (hg : gcL [a, b] = 1) : call T (n + 3) 2 [.d (.tuple [.int a, .int b])] S = .ok (.d (.bool true)) S := by
  have e := fun S => s_are_wholes (T := T) n [a, b] 2 S (by simp)
  simp only [List.map_cons, List.map_nil, List.length_cons, List.length_nil] at e
  rw [gcL2] at hg
  simp only [gc] at hg
  rw [call_at t_2 ⟨rfl, by decide⟩]
  simp only [c_2, e, hb, hg, i_zip3, k_z3, k_z3b, k_z3c, z3_cons, z3_nil, k_enT, k_o1r, e_op1, e_op2, e_comp2, k_o1, k_o2, k_o2b, k_db, k_db2, k_dbT, k_dbI1, k_dbI0, k_db1, k_dbN, k_dbM, d_nil, d_cons, i_enum, i_zip, i_rev, k_enL, k_zi, k_ziL, k_ziT, k_rvL, k_rvT, e_var, k_var, x_aug, k_au, k_me, e_con, e_bin, e_neg, e_not, e_and, e_or, e_cmp, e_cmp2, e_ite, e_call, e_callk, e_blt, e_isi, e_idx, e_sl, e_tup, e_lst, e_comp, e_meth, es_nil, es_cons, if_nil, if_cons, o_none, o_some, i_ex, i_r1, i_r2, g_name, g_sub, g_tup, g_tupL, gs_nil, gs_cons, x_asg, x_par, x_ex, x_ret, x_ifs, x_for, x_whl, x_pass, x_brk, x_cont, xs_nil, xs_cons, k_bin, k_bin2, k_neg, k_not, k_not2, k_and, k_and1, k_and0, k_or, k_or1, k_or0, k_cmp, k_cmp2, k_cmp3, k_c2, k_c2b, k_c2t, k_c2f, k_ite, k_ite1, k_ite0, k_call, k_ck, k_ck2, k_blt, k_isi, k_idx, k_idx2, k_sl, k_sl2, k_sl3, k_tup, k_tup2, k_lst, k_lst2, f_nil, f_cons, f_d, k_fz, k_fz2, k_comp, k_comp2, k_me2, k_es, k_es2, k_if, k_if1, k_if0, k_o, k_iL, k_iT, k_iK, k_r1, k_r2, k_r2b, k_sb, k_sb2, k_sb3, k_ts, k_as, k_as2, k_par, k_aug, k_aug2, k_ex, k_ret1, k_ret0, k_ret2, k_ifs, k_ifs1, k_ifs0, k_for, k_fo, k_foN, k_foC, k_foB, k_foR, k_sqN, k_sqC, k_sqB, k_sqR, k_fin, fin_d, fin_nx, c_nil, c_cons, k_cs, k_cs1, k_cs0, k_cs3, k_cs4, k_cs5, fo_nil, fo_cons, sizeL, evT, rb_ok, rb_no, q_add, q_sub, q_cmp, q_lt, q_le, q_gt, q_ge, q_eqI, q_neI, q_eqS, q_neS, q_isB, q_notB, q_isN, q_notN, q_truB, q_truI, q_truL, q_truT, q_truN, q_ixT, q_ixL, q_ixK, q_der, q_at0, q_at1, q_at2, q_at3, q_mkf, q_mkt, q_ixR, k_ixR, k_ix2, q_stR, k_stR, k_st2, q_slK, q_slL, fin_new, take_set, List.set_set, List.length_set, k_sqD0, ix30, ix31, ix32, b_lenL, b_lenT, b_lenK, b_int, b_intB, b_boolI, b_abs, b_max, b_min, b_tupL, b_tupT, b_gcd, b_listL, b_listT, b_listK, b_all, b_any, b_sum, asBools, asInts, Option.map_some, Option.map_none, isiD, List.map_cons, List.map_nil, List.cons_append, List.nil_append, List.append_nil, List.length_cons, List.length_nil, List.getElem?_cons_zero, List.getElem?_cons_succ, List.set_cons_zero, List.set_cons_succ, List.replicate, List.replicate_zero, List.replicate_succ, List.take_length, List.take_succ_cons, Nat.sub_self, setAll, if_true, if_false, Bool.false_eq_true, Nat.reduceAdd, Nat.reduceSub, Nat.reduceLeDiff, Nat.reduceLT, permU, List.filterMap_cons, List.filterMap_nil, wipeE, show decide (((2 : Nat) : Int) = 2) = true by decide, decide_true]
theorem s_check_ratio (n : Nat) (a b : Int) (S : Sto) (hb : 0 < b) (hg : gcL [a, b] = 1) : call T (n + 4) 3 [.d (.tuple [.int a, .int b])] S = .ok (.d .none) S := by
  rw [call_at t_3 ⟨rfl, by decide⟩]
  simp only [c_3, s_is_ratio _ _ _ _ hb hg, i_zip3, k_z3, k_z3b, k_z3c, z3_cons, z3_nil, k_enT, k_o1r, e_op1, e_op2, e_comp2, k_o1, k_o2, k_o2b, k_db, k_db2, k_dbT, k_dbI1, k_dbI0, k_db1, k_dbN, k_dbM, d_nil, d_cons, i_enum, i_zip, i_rev, k_enL, k_zi, k_ziL, k_ziT, k_rvL, k_rvT, e_var, k_var, x_aug, k_au, k_me, e_con, e_bin, e_neg, e_not, e_and, e_or, e_cmp, e_cmp2, e_ite, e_call, e_callk, e_blt, e_isi, e_idx, e_sl, e_tup, e_lst, e_comp, e_meth, es_nil, es_cons, if_nil, if_cons, o_none, o_some, i_ex, i_r1, i_r2, g_name, g_sub, g_tup, g_tupL, gs_nil, gs_cons, x_asg, x_par, x_ex, x_ret, x_ifs, x_for, x_whl, x_pass, x_brk, x_cont, xs_nil, xs_cons, k_bin, k_bin2, k_neg, k_not, k_not2, k_and, k_and1, k_and0, k_or, k_or1, k_or0, k_cmp, k_cmp2, k_cmp3, k_c2, k_c2b, k_c2t, k_c2f, k_ite, k_ite1, k_ite0, k_call, k_ck, k_ck2, k_blt, k_isi, k_idx, k_idx2, k_sl, k_sl2, k_sl3, k_tup, k_tup2, k_lst, k_lst2, f_nil, f_cons, f_d, k_fz, k_fz2, k_comp, k_comp2, k_me2, k_es, k_es2, k_if, k_if1, k_if0, k_o, k_iL, k_iT, k_iK, k_r1, k_r2, k_r2b, k_sb, k_sb2, k_sb3, k_ts, k_as, k_as2, k_par, k_aug, k_aug2, k_ex, k_ret1, k_ret0, k_ret2, k_ifs, k_ifs1, k_ifs0, k_for, k_fo, k_foN, k_foC, k_foB, k_foR, k_sqN, k_sqC, k_sqB, k_sqR, k_fin, fin_d, fin_nx, c_nil, c_cons, k_cs, k_cs1, k_cs0, k_cs3, k_cs4, k_cs5, fo_nil, fo_cons, sizeL, evT, rb_ok, rb_no, q_add, q_sub, q_cmp, q_lt, q_le, q_gt, q_ge, q_eqI, q_neI, q_eqS, q_neS, q_isB, q_notB, q_isN, q_notN, q_truB, q_truI, q_truL, q_truT, q_truN, q_ixT, q_ixL, q_ixK, q_der, q_at0, q_at1, q_at2, q_at3, q_mkf, q_mkt, q_ixR, k_ixR, k_ix2, q_stR, k_stR, k_st2, q_slK, q_slL, fin_new, take_set, List.set_set, List.length_set, k_sqD0, ix30, ix31, ix32, b_lenL, b_lenT, b_lenK, b_int, b_intB, b_boolI, b_abs, b_max, b_min, b_tupL, b_tupT, b_gcd, b_listL, b_listT, b_listK, b_all, b_any, b_sum, asBools, asInts, Option.map_some, Option.map_none, isiD, List.map_cons, List.map_nil, List.cons_append, List.nil_append, List.append_nil, List.length_cons, List.length_nil, List.getElem?_cons_zero, List.getElem?_cons_succ, List.set_cons_zero, List.set_cons_succ, List.replicate, List.replicate_zero, List.replicate_succ, List.take_length, List.take_succ_cons, Nat.sub_self, setAll, if_true, if_false, Bool.false_eq_true, Nat.reduceAdd, Nat.reduceSub, Nat.reduceLeDiff, Nat.reduceLT, permU, List.filterMap_cons, List.filterMap_nil, wipeE, Bool.not_true]
theorem s_ratio_of (n : Nat) (a b : Int) (S : Sto) (hb : 0 < b) (hg : (gcL [a, b]).natAbs.log2 < 9000) : call T (n + 1) 4 [.d (.int a), .d (.int b)] S = .ok (.d (.tuple ((redL [a, b]).map PyData.int))) S := by
  have h0 : gcL [a, b] ≠ 0 := fun e => by
    have := gcL_zero e b (by simp)
    omega
  simp only [redL, List.map_cons, List.map_nil]
  rw [gcL2] at *
  simp only [gc] at *
  rw [call_at t_4 ⟨rfl, by decide⟩]
  simp only [c_4, i_zip3, k_z3, k_z3b, k_z3c, z3_cons, z3_nil, k_enT, k_o1r, e_op1, e_op2, e_comp2, k_o1, k_o2, k_o2b, k_db, k_db2, k_dbT, k_dbI1, k_dbI0, k_db1, k_dbN, k_dbM, d_nil, d_cons, i_enum, i_zip, i_rev, k_enL, k_zi, k_ziL, k_ziT, k_rvL, k_rvT, e_var, k_var, x_aug, k_au, k_me, e_con, e_bin, e_neg, e_not, e_and, e_or, e_cmp, e_cmp2, e_ite, e_call, e_callk, e_blt, e_isi, e_idx, e_sl, e_tup, e_lst, e_comp, e_meth, es_nil, es_cons, if_nil, if_cons, o_none, o_some, i_ex, i_r1, i_r2, g_name, g_sub, g_tup, g_tupL, gs_nil, gs_cons, x_asg, x_par, x_ex, x_ret, x_ifs, x_for, x_whl, x_pass, x_brk, x_cont, xs_nil, xs_cons, k_bin, k_bin2, k_neg, k_not, k_not2, k_and, k_and1, k_and0, k_or, k_or1, k_or0, k_cmp, k_cmp2, k_cmp3, k_c2, k_c2b, k_c2t, k_c2f, k_ite, k_ite1, k_ite0, k_call, k_ck, k_ck2, k_blt, k_isi, k_idx, k_idx2, k_sl, k_sl2, k_sl3, k_tup, k_tup2, k_lst, k_lst2, f_nil, f_cons, f_d, k_fz, k_fz2, k_comp, k_comp2, k_me2, k_es, k_es2, k_if, k_if1, k_if0, k_o, k_iL, k_iT, k_iK, k_r1, k_r2, k_r2b, k_sb, k_sb2, k_sb3, k_ts, k_as, k_as2, k_par, k_aug, k_aug2, k_ex, k_ret1, k_ret0, k_ret2, k_ifs, k_ifs1, k_ifs0, k_for, k_fo, k_foN, k_foC, k_foB, k_foR, k_sqN, k_sqC, k_sqB, k_sqR, k_fin, fin_d, fin_nx, c_nil, c_cons, k_cs, k_cs1, k_cs0, k_cs3, k_cs4, k_cs5, fo_nil, fo_cons, sizeL, evT, rb_ok, rb_no, q_add, q_sub, q_cmp, q_lt, q_le, q_gt, q_ge, q_eqI, q_neI, q_eqS, q_neS, q_isB, q_notB, q_isN, q_notN, q_truB, q_truI, q_truL, q_truT, q_truN, q_ixT, q_ixL, q_ixK, q_der, q_at0, q_at1, q_at2, q_at3, q_mkf, q_mkt, q_ixR, k_ixR, k_ix2, q_stR, k_stR, k_st2, q_slK, q_slL, fin_new, take_set, List.set_set, List.length_set, k_sqD0, ix30, ix31, ix32, b_lenL, b_lenT, b_lenK, b_int, b_intB, b_boolI, b_abs, b_max, b_min, b_tupL, b_tupT, b_gcd, b_listL, b_listT, b_listK, b_all, b_any, b_sum, asBools, asInts, Option.map_some, Option.map_none, isiD, List.map_cons, List.map_nil, List.cons_append, List.nil_append, List.append_nil, List.length_cons, List.length_nil, List.getElem?_cons_zero, List.getElem?_cons_succ, List.set_cons_zero, List.set_cons_succ, List.replicate, List.replicate_zero, List.replicate_succ, List.take_length, List.take_succ_cons, Nat.sub_self, setAll, if_true, if_false, Bool.false_eq_true, Nat.reduceAdd, Nat.reduceSub, Nat.reduceLeDiff, Nat.reduceLT, permU, List.filterMap_cons, List.filterMap_nil, wipeE, hb, decide_true, q_fdivG _ _ h0 hg]

theorem s_is_polynomial (n : Nat) (ns : List Int) (h : ns.length < 16777216) (ht : trimL ns = ns) (S : Sto) : call T (n + 2) 5 [.d (.tuple (ns.map PyData.int))] S = .ok (.d (.bool true)) S := by
  have e : ∀ (a o : Option U), compE (call T (n + 1)) [a, o] [1] (.name 1) .nil (.call 0 (.cons (.var 1) .nil)) [] (ns.map PyData.int) S = .ok (ns.map fun _ => PyData.bool true) S := fun a o =>
    c_all PyData.int (fun _ => PyData.bool true) ns fun x _ => ⟨[a, some (.d (.int x))], by simp only [i_zip3, k_z3, k_z3b, k_z3c, z3_cons, z3_nil, k_enT, k_o1r, e_op1, e_op2, e_comp2, k_o1, k_o2, k_o2b, k_db, k_db2, k_dbT, k_dbI1, k_dbI0, k_db1, k_dbN, k_dbM, d_nil, d_cons, i_enum, i_zip, i_rev, k_enL, k_zi, k_ziL, k_ziT, k_rvL, k_rvT, e_var, k_var, x_aug, k_au, k_me, e_con, e_bin, e_neg, e_not, e_and, e_or, e_cmp, e_cmp2, e_ite, e_call, e_callk, e_blt, e_isi, e_idx, e_sl, e_tup, e_lst, e_comp, e_meth, es_nil, es_cons, if_nil, if_cons, o_none, o_some, i_ex, i_r1, i_r2, g_name, g_sub, g_tup, g_tupL, gs_nil, gs_cons, x_asg, x_par, x_ex, x_ret, x_ifs, x_for, x_whl, x_pass, x_brk, x_cont, xs_nil, xs_cons, k_bin, k_bin2, k_neg, k_not, k_not2, k_and, k_and1, k_and0, k_or, k_or1, k_or0, k_cmp, k_cmp2, k_cmp3, k_c2, k_c2b, k_c2t, k_c2f, k_ite, k_ite1, k_ite0, k_call, k_ck, k_ck2, k_blt, k_isi, k_idx, k_idx2, k_sl, k_sl2, k_sl3, k_tup, k_tup2, k_lst, k_lst2, f_nil, f_cons, f_d, k_fz, k_fz2, k_comp, k_comp2, k_me2, k_es, k_es2, k_if, k_if1, k_if0, k_o, k_iL, k_iT, k_iK, k_r1, k_r2, k_r2b, k_sb, k_sb2, k_sb3, k_ts, k_as, k_as2, k_par, k_aug, k_aug2, k_ex, k_ret1, k_ret0, k_ret2, k_ifs, k_ifs1, k_ifs0, k_for, k_fo, k_foN, k_foC, k_foB, k_foR, k_sqN, k_sqC, k_sqB, k_sqR, k_fin, fin_d, fin_nx, c_nil, c_cons, k_cs, k_cs1, k_cs0, k_cs3, k_cs4, k_cs5, fo_nil, fo_cons, sizeL, evT, rb_ok, rb_no, q_add, q_sub, q_cmp, q_lt, q_le, q_gt, q_ge, q_eqI, q_neI, q_eqS, q_neS, q_isB, q_notB, q_isN, q_notN, q_truB, q_truI, q_truL, q_truT, q_truN, q_ixT, q_ixL, q_ixK, q_der, q_at0, q_at1, q_at2, q_at3, q_mkf, q_mkt, q_ixR, k_ixR, k_ix2, q_stR, k_stR, k_st2, q_slK, q_slL, fin_new, take_set, List.set_set, List.length_set, k_sqD0, ix30, ix31, ix32, b_lenL, b_lenT, b_lenK, b_int, b_intB, b_boolI, b_abs, b_max, b_min, b_tupL, b_tupT, b_gcd, b_listL, b_listT, b_listK, b_all, b_any, b_sum, asBools, asInts, Option.map_some, Option.map_none, isiD, List.map_cons, List.map_nil, List.cons_append, List.nil_append, List.append_nil, List.length_cons, List.length_nil, List.getElem?_cons_zero, List.getElem?_cons_succ, List.set_cons_zero, List.set_cons_succ, List.replicate, List.replicate_zero, List.replicate_succ, List.take_length, List.take_succ_cons, Nat.sub_self, setAll, if_true, if_false, Bool.false_eq_true, Nat.reduceAdd, Nat.reduceSub, Nat.reduceLeDiff, Nat.reduceLT, permU, List.filterMap_cons, List.filterMap_nil, wipeE], by simp only [i_zip3, k_z3, k_z3b, k_z3c, z3_cons, z3_nil, k_enT, k_o1r, e_op1, e_op2, e_comp2, k_o1, k_o2, k_o2b, k_db, k_db2, k_dbT, k_dbI1, k_dbI0, k_db1, k_dbN, k_dbM, d_nil, d_cons, i_enum, i_zip, i_rev, k_enL, k_zi, k_ziL, k_ziT, k_rvL, k_rvT, e_var, k_var, x_aug, k_au, k_me, e_con, e_bin, e_neg, e_not, e_and, e_or, e_cmp, e_cmp2, e_ite, e_call, e_callk, e_blt, e_isi, e_idx, e_sl, e_tup, e_lst, e_comp, e_meth, es_nil, es_cons, if_nil, if_cons, o_none, o_some, i_ex, i_r1, i_r2, g_name, g_sub, g_tup, g_tupL, gs_nil, gs_cons, x_asg, x_par, x_ex, x_ret, x_ifs, x_for, x_whl, x_pass, x_brk, x_cont, xs_nil, xs_cons, k_bin, k_bin2, k_neg, k_not, k_not2, k_and, k_and1, k_and0, k_or, k_or1, k_or0, k_cmp, k_cmp2, k_cmp3, k_c2, k_c2b, k_c2t, k_c2f, k_ite, k_ite1, k_ite0, k_call, k_ck, k_ck2, k_blt, k_isi, k_idx, k_idx2, k_sl, k_sl2, k_sl3, k_tup, k_tup2, k_lst, k_lst2, f_nil, f_cons, f_d, k_fz, k_fz2, k_comp, k_comp2, k_me2, k_es, k_es2, k_if, k_if1, k_if0, k_o, k_iL, k_iT, k_iK, k_r1, k_r2, k_r2b, k_sb, k_sb2, k_sb3, k_ts, k_as, k_as2, k_par, k_aug, k_aug2, k_ex, k_ret1, k_ret0, k_ret2, k_ifs, k_ifs1, k_ifs0, k_for, k_fo, k_foN, k_foC, k_foB, k_foR, k_sqN, k_sqC, k_sqB, k_sqR, k_fin, fin_d, fin_nx, c_nil, c_cons, k_cs, k_cs1, k_cs0, k_cs3, k_cs4, k_cs5, fo_nil, fo_cons, sizeL, evT, rb_ok, rb_no, q_add, q_sub, q_cmp, q_lt, q_le, q_gt, q_ge, q_eqI, q_neI, q_eqS, q_neS, q_isB, q_notB, q_isN, q_notN, q_truB, q_truI, q_truL, q_truT, q_truN, q_ixT, q_ixL, q_ixK, q_der, q_at0, q_at1, q_at2, q_at3, q_mkf, q_mkt, q_ixR, k_ixR, k_ix2, q_stR, k_stR, k_st2, q_slK, q_slL, fin_new, take_set, List.set_set, List.length_set, k_sqD0, ix30, ix31, ix32, b_lenL, b_lenT, b_lenK, b_int, b_intB, b_boolI, b_abs, b_max, b_min, b_tupL, b_tupT, b_gcd, b_listL, b_listT, b_listK, b_all, b_any, b_sum, asBools, asInts, Option.map_some, Option.map_none, isiD, List.map_cons, List.map_nil, List.cons_append, List.nil_append, List.append_nil, List.length_cons, List.length_nil, List.getElem?_cons_zero, List.getElem?_cons_succ, List.set_cons_zero, List.set_cons_succ, List.replicate, List.replicate_zero, List.replicate_succ, List.take_length, List.take_succ_cons, Nat.sub_self, setAll, if_true, if_false, Bool.false_eq_true, Nat.reduceAdd, Nat.reduceSub, Nat.reduceLeDiff, Nat.reduceLT, permU, List.filterMap_cons, List.filterMap_nil, wipeE, s_is_whole, Bool.not_false, Bool.and_true]⟩
  have al : (ns.map fun _ => true).all id = true := by simp
  rw [call_at t_5 ⟨rfl, by decide⟩]
  by_cases c : ns = []
  · have eq0 := eq_nilT []
    subst c
    simp only [List.map_nil] at eq0
    simp only [c_5, i_zip3, k_z3, k_z3b, k_z3c, z3_cons, z3_nil, k_enT, k_o1r, e_op1, e_op2, e_comp2, k_o1, k_o2, k_o2b, k_db, k_db2, k_dbT, k_dbI1, k_dbI0, k_db1, k_dbN, k_dbM, d_nil, d_cons, i_enum, i_zip, i_rev, k_enL, k_zi, k_ziL, k_ziT, k_rvL, k_rvT, e_var, k_var, x_aug, k_au, k_me, e_con, e_bin, e_neg, e_not, e_and, e_or, e_cmp, e_cmp2, e_ite, e_call, e_callk, e_blt, e_isi, e_idx, e_sl, e_tup, e_lst, e_comp, e_meth, es_nil, es_cons, if_nil, if_cons, o_none, o_some, i_ex, i_r1, i_r2, g_name, g_sub, g_tup, g_tupL, gs_nil, gs_cons, x_asg, x_par, x_ex, x_ret, x_ifs, x_for, x_whl, x_pass, x_brk, x_cont, xs_nil, xs_cons, k_bin, k_bin2, k_neg, k_not, k_not2, k_and, k_and1, k_and0, k_or, k_or1, k_or0, k_cmp, k_cmp2, k_cmp3, k_c2, k_c2b, k_c2t, k_c2f, k_ite, k_ite1, k_ite0, k_call, k_ck, k_ck2, k_blt, k_isi, k_idx, k_idx2, k_sl, k_sl2, k_sl3, k_tup, k_tup2, k_lst, k_lst2, f_nil, f_cons, f_d, k_fz, k_fz2, k_comp, k_comp2, k_me2, k_es, k_es2, k_if, k_if1, k_if0, k_o, k_iL, k_iT, k_iK, k_r1, k_r2, k_r2b, k_sb, k_sb2, k_sb3, k_ts, k_as, k_as2, k_par, k_aug, k_aug2, k_ex, k_ret1, k_ret0, k_ret2, k_ifs, k_ifs1, k_ifs0, k_for, k_fo, k_foN, k_foC, k_foB, k_foR, k_sqN, k_sqC, k_sqB, k_sqR, k_fin, fin_d, fin_nx, c_nil, c_cons, k_cs, k_cs1, k_cs0, k_cs3, k_cs4, k_cs5, fo_nil, fo_cons, sizeL, evT, rb_ok, rb_no, q_add, q_sub, q_cmp, q_lt, q_le, q_gt, q_ge, q_eqI, q_neI, q_eqS, q_neS, q_isB, q_notB, q_isN, q_notN, q_truB, q_truI, q_truL, q_truT, q_truN, q_ixT, q_ixL, q_ixK, q_der, q_at0, q_at1, q_at2, q_at3, q_mkf, q_mkt, q_ixR, k_ixR, k_ix2, q_stR, k_stR, k_st2, q_slK, q_slL, fin_new, take_set, List.set_set, List.length_set, k_sqD0, ix30, ix31, ix32, b_lenL, b_lenT, b_lenK, b_int, b_intB, b_boolI, b_abs, b_max, b_min, b_tupL, b_tupT, b_gcd, b_listL, b_listT, b_listK, b_all, b_any, b_sum, asBools, asInts, Option.map_some, Option.map_none, isiD, List.map_cons, List.map_nil, List.cons_append, List.nil_append, List.append_nil, List.length_cons, List.length_nil, List.getElem?_cons_zero, List.getElem?_cons_succ, List.set_cons_zero, List.set_cons_succ, List.replicate, List.replicate_zero, List.replicate_succ, List.take_length, List.take_succ_cons, Nat.sub_self, setAll, if_true, if_false, Bool.false_eq_true, Nat.reduceAdd, Nat.reduceSub, Nat.reduceLeDiff, Nat.reduceLT, permU, List.filterMap_cons, List.filterMap_nil, wipeE, eq0, List.all_nil, Bool.not_true, decide_true, Nat.zero_lt_succ, Nat.reduceLT]
  · obtain ⟨ys, z, rfl⟩ := snoc_of c
    have hz := trim_last _ ht
    simp only [c_5, i_zip3, k_z3, k_z3b, k_z3c, z3_cons, z3_nil, k_enT, k_o1r, e_op1, e_op2, e_comp2, k_o1, k_o2, k_o2b, k_db, k_db2, k_dbT, k_dbI1, k_dbI0, k_db1, k_dbN, k_dbM, d_nil, d_cons, i_enum, i_zip, i_rev, k_enL, k_zi, k_ziL, k_ziT, k_rvL, k_rvT, e_var, k_var, x_aug, k_au, k_me, e_con, e_bin, e_neg, e_not, e_and, e_or, e_cmp, e_cmp2, e_ite, e_call, e_callk, e_blt, e_isi, e_idx, e_sl, e_tup, e_lst, e_comp, e_meth, es_nil, es_cons, if_nil, if_cons, o_none, o_some, i_ex, i_r1, i_r2, g_name, g_sub, g_tup, g_tupL, gs_nil, gs_cons, x_asg, x_par, x_ex, x_ret, x_ifs, x_for, x_whl, x_pass, x_brk, x_cont, xs_nil, xs_cons, k_bin, k_bin2, k_neg, k_not, k_not2, k_and, k_and1, k_and0, k_or, k_or1, k_or0, k_cmp, k_cmp2, k_cmp3, k_c2, k_c2b, k_c2t, k_c2f, k_ite, k_ite1, k_ite0, k_call, k_ck, k_ck2, k_blt, k_isi, k_idx, k_idx2, k_sl, k_sl2, k_sl3, k_tup, k_tup2, k_lst, k_lst2, f_nil, f_cons, f_d, k_fz, k_fz2, k_comp, k_comp2, k_me2, k_es, k_es2, k_if, k_if1, k_if0, k_o, k_iL, k_iT, k_iK, k_r1, k_r2, k_r2b, k_sb, k_sb2, k_sb3, k_ts, k_as, k_as2, k_par, k_aug, k_aug2, k_ex, k_ret1, k_ret0, k_ret2, k_ifs, k_ifs1, k_ifs0, k_for, k_fo, k_foN, k_foC, k_foB, k_foR, k_sqN, k_sqC, k_sqB, k_sqR, k_fin, fin_d, fin_nx, c_nil, c_cons, k_cs, k_cs1, k_cs0, k_cs3, k_cs4, k_cs5, fo_nil, fo_cons, sizeL, evT, rb_ok, rb_no, q_add, q_sub, q_cmp, q_lt, q_le, q_gt, q_ge, q_eqI, q_neI, q_eqS, q_neS, q_isB, q_notB, q_isN, q_notN, q_truB, q_truI, q_truL, q_truT, q_truN, q_ixT, q_ixL, q_ixK, q_der, q_at0, q_at1, q_at2, q_at3, q_mkf, q_mkt, q_ixR, k_ixR, k_ix2, q_stR, k_stR, k_st2, q_slK, q_slL, fin_new, take_set, List.set_set, List.length_set, k_sqD0, ix30, ix31, ix32, b_lenL, b_lenT, b_lenK, b_int, b_intB, b_boolI, b_abs, b_max, b_min, b_tupL, b_tupT, b_gcd, b_listL, b_listT, b_listK, b_all, b_any, b_sum, asBools, asInts, Option.map_some, Option.map_none, isiD, List.map_cons, List.map_nil, List.cons_append, List.nil_append, List.append_nil, List.length_cons, List.length_nil, List.getElem?_cons_zero, List.getElem?_cons_succ, List.set_cons_zero, List.set_cons_succ, List.replicate, List.replicate_zero, List.replicate_succ, List.take_length, List.take_succ_cons, Nat.sub_self, setAll, if_true, if_false, Bool.false_eq_true, Nat.reduceAdd, Nat.reduceSub, Nat.reduceLeDiff, Nat.reduceLT, permU, List.filterMap_cons, List.filterMap_nil, wipeE, List.length_map, h, e, asBools_true, al, Bool.not_true, eq_nilT, c, decide_false]
    simp only [List.map_append, List.map_cons, List.map_nil]
    simp only [i_zip3, k_z3, k_z3b, k_z3c, z3_cons, z3_nil, k_enT, k_o1r, e_op1, e_op2, e_comp2, k_o1, k_o2, k_o2b, k_db, k_db2, k_dbT, k_dbI1, k_dbI0, k_db1, k_dbN, k_dbM, d_nil, d_cons, i_enum, i_zip, i_rev, k_enL, k_zi, k_ziL, k_ziT, k_rvL, k_rvT, e_var, k_var, x_aug, k_au, k_me, e_con, e_bin, e_neg, e_not, e_and, e_or, e_cmp, e_cmp2, e_ite, e_call, e_callk, e_blt, e_isi, e_idx, e_sl, e_tup, e_lst, e_comp, e_meth, es_nil, es_cons, if_nil, if_cons, o_none, o_some, i_ex, i_r1, i_r2, g_name, g_sub, g_tup, g_tupL, gs_nil, gs_cons, x_asg, x_par, x_ex, x_ret, x_ifs, x_for, x_whl, x_pass, x_brk, x_cont, xs_nil, xs_cons, k_bin, k_bin2, k_neg, k_not, k_not2, k_and, k_and1, k_and0, k_or, k_or1, k_or0, k_cmp, k_cmp2, k_cmp3, k_c2, k_c2b, k_c2t, k_c2f, k_ite, k_ite1, k_ite0, k_call, k_ck, k_ck2, k_blt, k_isi, k_idx, k_idx2, k_sl, k_sl2, k_sl3, k_tup, k_tup2, k_lst, k_lst2, f_nil, f_cons, f_d, k_fz, k_fz2, k_comp, k_comp2, k_me2, k_es, k_es2, k_if, k_if1, k_if0, k_o, k_iL, k_iT, k_iK, k_r1, k_r2, k_r2b, k_sb, k_sb2, k_sb3, k_ts, k_as, k_as2, k_par, k_aug, k_aug2, k_ex, k_ret1, k_ret0, k_ret2, k_ifs, k_ifs1, k_ifs0, k_for, k_fo, k_foN, k_foC, k_foB, k_foR, k_sqN, k_sqC, k_sqB, k_sqR, k_fin, fin_d, fin_nx, c_nil, c_cons, k_cs, k_cs1, k_cs0, k_cs3, k_cs4, k_cs5, fo_nil, fo_cons, sizeL, evT, rb_ok, rb_no, q_add, q_sub, q_cmp, q_lt, q_le, q_gt, q_ge, q_eqI, q_neI, q_eqS, q_neS, q_isB, q_notB, q_isN, q_notN, q_truB, q_truI, q_truL, q_truT, q_truN, q_ixT, q_ixL, q_ixK, q_der, q_at0, q_at1, q_at2, q_at3, q_mkf, q_mkt, q_ixR, k_ixR, k_ix2, q_stR, k_stR, k_st2, q_slK, q_slL, fin_new, take_set, List.set_set, List.length_set, k_sqD0, ix30, ix31, ix32, b_lenL, b_lenT, b_lenK, b_int, b_intB, b_boolI, b_abs, b_max, b_min, b_tupL, b_tupT, b_gcd, b_listL, b_listT, b_listK, b_all, b_any, b_sum, asBools, asInts, Option.map_some, Option.map_none, isiD, List.map_cons, List.map_nil, List.cons_append, List.nil_append, List.append_nil, List.length_cons, List.length_nil, List.getElem?_cons_zero, List.getElem?_cons_succ, List.set_cons_zero, List.set_cons_succ, List.replicate, List.replicate_zero, List.replicate_succ, List.take_length, List.take_succ_cons, Nat.sub_self, setAll, if_true, if_false, Bool.false_eq_true, Nat.reduceAdd, Nat.reduceSub, Nat.reduceLeDiff, Nat.reduceLT, permU, List.filterMap_cons, List.filterMap_nil, wipeE, at_end, hz, decide_false, Bool.not_false]
theorem s_check_polynomial (n : Nat) (ns : List Int) (h : ns.length < 16777216) (ht : trimL ns = ns) (S : Sto) : call T (n + 3) 6 [.d (.tuple (ns.map PyData.int))] S = .ok (.d .none) S := by
  rw [call_at t_6 ⟨rfl, by decide⟩]
  simp only [c_6, s_is_polynomial _ _ h ht, i_zip3, k_z3, k_z3b, k_z3c, z3_cons, z3_nil, k_enT, k_o1r, e_op1, e_op2, e_comp2, k_o1, k_o2, k_o2b, k_db, k_db2, k_dbT, k_dbI1, k_dbI0, k_db1, k_dbN, k_dbM, d_nil, d_cons, i_enum, i_zip, i_rev, k_enL, k_zi, k_ziL, k_ziT, k_rvL, k_rvT, e_var, k_var, x_aug, k_au, k_me, e_con, e_bin, e_neg, e_not, e_and, e_or, e_cmp, e_cmp2, e_ite, e_call, e_callk, e_blt, e_isi, e_idx, e_sl, e_tup, e_lst, e_comp, e_meth, es_nil, es_cons, if_nil, if_cons, o_none, o_some, i_ex, i_r1, i_r2, g_name, g_sub, g_tup, g_tupL, gs_nil, gs_cons, x_asg, x_par, x_ex, x_ret, x_ifs, x_for, x_whl, x_pass, x_brk, x_cont, xs_nil, xs_cons, k_bin, k_bin2, k_neg, k_not, k_not2, k_and, k_and1, k_and0, k_or, k_or1, k_or0, k_cmp, k_cmp2, k_cmp3, k_c2, k_c2b, k_c2t, k_c2f, k_ite, k_ite1, k_ite0, k_call, k_ck, k_ck2, k_blt, k_isi, k_idx, k_idx2, k_sl, k_sl2, k_sl3, k_tup, k_tup2, k_lst, k_lst2, f_nil, f_cons, f_d, k_fz, k_fz2, k_comp, k_comp2, k_me2, k_es, k_es2, k_if, k_if1, k_if0, k_o, k_iL, k_iT, k_iK, k_r1, k_r2, k_r2b, k_sb, k_sb2, k_sb3, k_ts, k_as, k_as2, k_par, k_aug, k_aug2, k_ex, k_ret1, k_ret0, k_ret2, k_ifs, k_ifs1, k_ifs0, k_for, k_fo, k_foN, k_foC, k_foB, k_foR, k_sqN, k_sqC, k_sqB, k_sqR, k_fin, fin_d, fin_nx, c_nil, c_cons, k_cs, k_cs1, k_cs0, k_cs3, k_cs4, k_cs5, fo_nil, fo_cons, sizeL, evT, rb_ok, rb_no, q_add, q_sub, q_cmp, q_lt, q_le, q_gt, q_ge, q_eqI, q_neI, q_eqS, q_neS, q_isB, q_notB, q_isN, q_notN, q_truB, q_truI, q_truL, q_truT, q_truN, q_ixT, q_ixL, q_ixK, q_der, q_at0, q_at1, q_at2, q_at3, q_mkf, q_mkt, q_ixR, k_ixR, k_ix2, q_stR, k_stR, k_st2, q_slK, q_slL, fin_new, take_set, List.set_set, List.length_set, k_sqD0, ix30, ix31, ix32, b_lenL, b_lenT, b_lenK, b_int, b_intB, b_boolI, b_abs, b_max, b_min, b_tupL, b_tupT, b_gcd, b_listL, b_listT, b_listK, b_all, b_any, b_sum, asBools, asInts, Option.map_some, Option.map_none, isiD, List.map_cons, List.map_nil, List.cons_append, List.nil_append, List.append_nil, List.length_cons, List.length_nil, List.getElem?_cons_zero, List.getElem?_cons_succ, List.set_cons_zero, List.set_cons_succ, List.replicate, List.replicate_zero, List.replicate_succ, List.take_length, List.take_succ_cons, Nat.sub_self, setAll, if_true, if_false, Bool.false_eq_true, Nat.reduceAdd, Nat.reduceSub, Nat.reduceLeDiff, Nat.reduceLT, permU, List.filterMap_cons, List.filterMap_nil, wipeE, Bool.not_true]
theorem set_same {S : Sto} {j : Nat} {c : Option (List D)} (h : S[j]? = some c) : S.set j c = S := List.ext_getElem? fun i => by
  rw [List.getElem?_set]
  have hj : j < S.length := (List.getElem?_eq_some_iff.mp h).1
  by_cases e : j = i
  · subst e
    rw [if_pos rfl, if_pos hj, h]
  · rw [if_neg e]
theorem w_trimmed (n : Nat) (x : Option U) {j : Nat} : ∀ (k : Nat) (ys : List Int) (S : Sto), ys.length = k → S[j]? = some (some (ys.map PyData.int)) → whE (call T n) (.and (.cmp .NotEq (.var 1) (.lst false .nil)) (.cmp .Eq (.idx (.var 1) (.neg (.con (.int 1)))) (.con (.int 0)))) c_7_b0 [x, some (.r j)] S = .ok (.nx [x, some (.r j)]) (S.set j (some ((trimL ys).map PyData.int)))
  | 0, ys, S, hk, hS => by
    have e : ys = [] := List.length_eq_zero_iff.mp hk
    subst e
    have c1 : cmpU .NotEq (.r j) (.d (.list [])) S = some (decide (([] : List Int) ≠ [])) := by simp only [cmpU, r_der hS, q_der, ne_nilL]
    have same : S.set j (some ((trimL []).map PyData.int)) = S := set_same hS
    rw [same]
    exact wh_stop _ (S1 := S) (by simp only [i_zip3, k_z3, k_z3b, k_z3c, z3_cons, z3_nil, k_enT, k_o1r, e_op1, e_op2, e_comp2, k_o1, k_o2, k_o2b, k_db, k_db2, k_dbT, k_dbI1, k_dbI0, k_db1, k_dbN, k_dbM, d_nil, d_cons, i_enum, i_zip, i_rev, k_enL, k_zi, k_ziL, k_ziT, k_rvL, k_rvT, e_var, k_var, x_aug, k_au, k_me, e_con, e_bin, e_neg, e_not, e_and, e_or, e_cmp, e_cmp2, e_ite, e_call, e_callk, e_blt, e_isi, e_idx, e_sl, e_tup, e_lst, e_comp, e_meth, es_nil, es_cons, if_nil, if_cons, o_none, o_some, i_ex, i_r1, i_r2, g_name, g_sub, g_tup, g_tupL, gs_nil, gs_cons, x_asg, x_par, x_ex, x_ret, x_ifs, x_for, x_whl, x_pass, x_brk, x_cont, xs_nil, xs_cons, k_bin, k_bin2, k_neg, k_not, k_not2, k_and, k_and1, k_and0, k_or, k_or1, k_or0, k_cmp, k_cmp2, k_cmp3, k_c2, k_c2b, k_c2t, k_c2f, k_ite, k_ite1, k_ite0, k_call, k_ck, k_ck2, k_blt, k_isi, k_idx, k_idx2, k_sl, k_sl2, k_sl3, k_tup, k_tup2, k_lst, k_lst2, f_nil, f_cons, f_d, k_fz, k_fz2, k_comp, k_comp2, k_me2, k_es, k_es2, k_if, k_if1, k_if0, k_o, k_iL, k_iT, k_iK, k_r1, k_r2, k_r2b, k_sb, k_sb2, k_sb3, k_ts, k_as, k_as2, k_par, k_aug, k_aug2, k_ex, k_ret1, k_ret0, k_ret2, k_ifs, k_ifs1, k_ifs0, k_for, k_fo, k_foN, k_foC, k_foB, k_foR, k_sqN, k_sqC, k_sqB, k_sqR, k_fin, fin_d, fin_nx, c_nil, c_cons, k_cs, k_cs1, k_cs0, k_cs3, k_cs4, k_cs5, fo_nil, fo_cons, sizeL, evT, rb_ok, rb_no, q_add, q_sub, q_cmp, q_lt, q_le, q_gt, q_ge, q_eqI, q_neI, q_eqS, q_neS, q_isB, q_notB, q_isN, q_notN, q_truB, q_truI, q_truL, q_truT, q_truN, q_ixT, q_ixL, q_ixK, q_der, q_at0, q_at1, q_at2, q_at3, q_mkf, q_mkt, q_ixR, k_ixR, k_ix2, q_stR, k_stR, k_st2, q_slK, q_slL, fin_new, take_set, List.set_set, List.length_set, k_sqD0, ix30, ix31, ix32, b_lenL, b_lenT, b_lenK, b_int, b_intB, b_boolI, b_abs, b_max, b_min, b_tupL, b_tupT, b_gcd, b_listL, b_listT, b_listK, b_all, b_any, b_sum, asBools, asInts, Option.map_some, Option.map_none, isiD, List.map_cons, List.map_nil, List.cons_append, List.nil_append, List.append_nil, List.length_cons, List.length_nil, List.getElem?_cons_zero, List.getElem?_cons_succ, List.set_cons_zero, List.set_cons_succ, List.replicate, List.replicate_zero, List.replicate_succ, List.take_length, List.take_succ_cons, Nat.sub_self, setAll, if_true, if_false, Bool.false_eq_true, Nat.reduceAdd, Nat.reduceSub, Nat.reduceLeDiff, Nat.reduceLT, permU, List.filterMap_cons, List.filterMap_nil, wipeE, c1, ne_eq, not_true_eq_false, decide_false])
  | k + 1, ys, S, hk, hS => by
    have c0 : ys ≠ [] := fun e => by rw [e] at hk; cases hk
    have hj : j < S.length := (List.getElem?_eq_some_iff.mp hS).1
    obtain ⟨zs, z, rfl⟩ := snoc_of c0
    have c1 : cmpU .NotEq (.r j) (.d (.list [])) S = some (decide (zs ++ [z] ≠ [])) := by simp only [cmpU, r_der hS, q_der, ne_nilL]
    have i1 : idxU (.r j) (.d (.int (-1))) S = .ok (.d (.int z)) S := r_idx hS (by rw [List.map_append]; exact at_end)
    have tr : decide (zs ++ [z] ≠ []) = true := by simp
    rw [tr] at c1
    by_cases hz : z = 0
    · subst hz
      have pp : methU .pop (.r j) [] S = .ok (.d (.int 0)) (S.set j (some (zs.map PyData.int))) := by
        rw [r_pop (d := .int 0) hS (by simp)]
        simp
      have ih := w_trimmed n x k zs (S.set j (some (zs.map PyData.int))) (by simpa using hk) (get_set S _ hj)
      rw [List.set_set] at ih
      rw [trim_zero]
      refine wh_turn _ (S1 := S) (S2 := S.set j (some (zs.map PyData.int))) (e1 := [x, some (.r j)]) (by simp only [i_zip3, k_z3, k_z3b, k_z3c, z3_cons, z3_nil, k_enT, k_o1r, e_op1, e_op2, e_comp2, k_o1, k_o2, k_o2b, k_db, k_db2, k_dbT, k_dbI1, k_dbI0, k_db1, k_dbN, k_dbM, d_nil, d_cons, i_enum, i_zip, i_rev, k_enL, k_zi, k_ziL, k_ziT, k_rvL, k_rvT, e_var, k_var, x_aug, k_au, k_me, e_con, e_bin, e_neg, e_not, e_and, e_or, e_cmp, e_cmp2, e_ite, e_call, e_callk, e_blt, e_isi, e_idx, e_sl, e_tup, e_lst, e_comp, e_meth, es_nil, es_cons, if_nil, if_cons, o_none, o_some, i_ex, i_r1, i_r2, g_name, g_sub, g_tup, g_tupL, gs_nil, gs_cons, x_asg, x_par, x_ex, x_ret, x_ifs, x_for, x_whl, x_pass, x_brk, x_cont, xs_nil, xs_cons, k_bin, k_bin2, k_neg, k_not, k_not2, k_and, k_and1, k_and0, k_or, k_or1, k_or0, k_cmp, k_cmp2, k_cmp3, k_c2, k_c2b, k_c2t, k_c2f, k_ite, k_ite1, k_ite0, k_call, k_ck, k_ck2, k_blt, k_isi, k_idx, k_idx2, k_sl, k_sl2, k_sl3, k_tup, k_tup2, k_lst, k_lst2, f_nil, f_cons, f_d, k_fz, k_fz2, k_comp, k_comp2, k_me2, k_es, k_es2, k_if, k_if1, k_if0, k_o, k_iL, k_iT, k_iK, k_r1, k_r2, k_r2b, k_sb, k_sb2, k_sb3, k_ts, k_as, k_as2, k_par, k_aug, k_aug2, k_ex, k_ret1, k_ret0, k_ret2, k_ifs, k_ifs1, k_ifs0, k_for, k_fo, k_foN, k_foC, k_foB, k_foR, k_sqN, k_sqC, k_sqB, k_sqR, k_fin, fin_d, fin_nx, c_nil, c_cons, k_cs, k_cs1, k_cs0, k_cs3, k_cs4, k_cs5, fo_nil, fo_cons, sizeL, evT, rb_ok, rb_no, q_add, q_sub, q_cmp, q_lt, q_le, q_gt, q_ge, q_eqI, q_neI, q_eqS, q_neS, q_isB, q_notB, q_isN, q_notN, q_truB, q_truI, q_truL, q_truT, q_truN, q_ixT, q_ixL, q_ixK, q_der, q_at0, q_at1, q_at2, q_at3, q_mkf, q_mkt, q_ixR, k_ixR, k_ix2, q_stR, k_stR, k_st2, q_slK, q_slL, fin_new, take_set, List.set_set, List.length_set, k_sqD0, ix30, ix31, ix32, b_lenL, b_lenT, b_lenK, b_int, b_intB, b_boolI, b_abs, b_max, b_min, b_tupL, b_tupT, b_gcd, b_listL, b_listT, b_listK, b_all, b_any, b_sum, asBools, asInts, Option.map_some, Option.map_none, isiD, List.map_cons, List.map_nil, List.cons_append, List.nil_append, List.append_nil, List.length_cons, List.length_nil, List.getElem?_cons_zero, List.getElem?_cons_succ, List.set_cons_zero, List.set_cons_succ, List.replicate, List.replicate_zero, List.replicate_succ, List.take_length, List.take_succ_cons, Nat.sub_self, setAll, if_true, if_false, Bool.false_eq_true, Nat.reduceAdd, Nat.reduceSub, Nat.reduceLeDiff, Nat.reduceLT, permU, List.filterMap_cons, List.filterMap_nil, wipeE, c1, i1, decide_true]) ?_ ih
      simp only [c_7_b0, i_zip3, k_z3, k_z3b, k_z3c, z3_cons, z3_nil, k_enT, k_o1r, e_op1, e_op2, e_comp2, k_o1, k_o2, k_o2b, k_db, k_db2, k_dbT, k_dbI1, k_dbI0, k_db1, k_dbN, k_dbM, d_nil, d_cons, i_enum, i_zip, i_rev, k_enL, k_zi, k_ziL, k_ziT, k_rvL, k_rvT, e_var, k_var, x_aug, k_au, k_me, e_con, e_bin, e_neg, e_not, e_and, e_or, e_cmp, e_cmp2, e_ite, e_call, e_callk, e_blt, e_isi, e_idx, e_sl, e_tup, e_lst, e_comp, e_meth, es_nil, es_cons, if_nil, if_cons, o_none, o_some, i_ex, i_r1, i_r2, g_name, g_sub, g_tup, g_tupL, gs_nil, gs_cons, x_asg, x_par, x_ex, x_ret, x_ifs, x_for, x_whl, x_pass, x_brk, x_cont, xs_nil, xs_cons, k_bin, k_bin2, k_neg, k_not, k_not2, k_and, k_and1, k_and0, k_or, k_or1, k_or0, k_cmp, k_cmp2, k_cmp3, k_c2, k_c2b, k_c2t, k_c2f, k_ite, k_ite1, k_ite0, k_call, k_ck, k_ck2, k_blt, k_isi, k_idx, k_idx2, k_sl, k_sl2, k_sl3, k_tup, k_tup2, k_lst, k_lst2, f_nil, f_cons, f_d, k_fz, k_fz2, k_comp, k_comp2, k_me2, k_es, k_es2, k_if, k_if1, k_if0, k_o, k_iL, k_iT, k_iK, k_r1, k_r2, k_r2b, k_sb, k_sb2, k_sb3, k_ts, k_as, k_as2, k_par, k_aug, k_aug2, k_ex, k_ret1, k_ret0, k_ret2, k_ifs, k_ifs1, k_ifs0, k_for, k_fo, k_foN, k_foC, k_foB, k_foR, k_sqN, k_sqC, k_sqB, k_sqR, k_fin, fin_d, fin_nx, c_nil, c_cons, k_cs, k_cs1, k_cs0, k_cs3, k_cs4, k_cs5, fo_nil, fo_cons, sizeL, evT, rb_ok, rb_no, q_add, q_sub, q_cmp, q_lt, q_le, q_gt, q_ge, q_eqI, q_neI, q_eqS, q_neS, q_isB, q_notB, q_isN, q_notN, q_truB, q_truI, q_truL, q_truT, q_truN, q_ixT, q_ixL, q_ixK, q_der, q_at0, q_at1, q_at2, q_at3, q_mkf, q_mkt, q_ixR, k_ixR, k_ix2, q_stR, k_stR, k_st2, q_slK, q_slL, fin_new, take_set, List.set_set, List.length_set, k_sqD0, ix30, ix31, ix32, b_lenL, b_lenT, b_lenK, b_int, b_intB, b_boolI, b_abs, b_max, b_min, b_tupL, b_tupT, b_gcd, b_listL, b_listT, b_listK, b_all, b_any, b_sum, asBools, asInts, Option.map_some, Option.map_none, isiD, List.map_cons, List.map_nil, List.cons_append, List.nil_append, List.append_nil, List.length_cons, List.length_nil, List.getElem?_cons_zero, List.getElem?_cons_succ, List.set_cons_zero, List.set_cons_succ, List.replicate, List.replicate_zero, List.replicate_succ, List.take_length, List.take_succ_cons, Nat.sub_self, setAll, if_true, if_false, Bool.false_eq_true, Nat.reduceAdd, Nat.reduceSub, Nat.reduceLeDiff, Nat.reduceLT, permU, List.filterMap_cons, List.filterMap_nil, wipeE, r_seq hS, k_me1, pp]
    · have same : S.set j (some ((trimL (zs ++ [z])).map PyData.int)) = S := by rw [trim_end zs hz]; exact set_same hS
      rw [same]
      exact wh_stop _ (S1 := S) (by simp only [i_zip3, k_z3, k_z3b, k_z3c, z3_cons, z3_nil, k_enT, k_o1r, e_op1, e_op2, e_comp2, k_o1, k_o2, k_o2b, k_db, k_db2, k_dbT, k_dbI1, k_dbI0, k_db1, k_dbN, k_dbM, d_nil, d_cons, i_enum, i_zip, i_rev, k_enL, k_zi, k_ziL, k_ziT, k_rvL, k_rvT, e_var, k_var, x_aug, k_au, k_me, e_con, e_bin, e_neg, e_not, e_and, e_or, e_cmp, e_cmp2, e_ite, e_call, e_callk, e_blt, e_isi, e_idx, e_sl, e_tup, e_lst, e_comp, e_meth, es_nil, es_cons, if_nil, if_cons, o_none, o_some, i_ex, i_r1, i_r2, g_name, g_sub, g_tup, g_tupL, gs_nil, gs_cons, x_asg, x_par, x_ex, x_ret, x_ifs, x_for, x_whl, x_pass, x_brk, x_cont, xs_nil, xs_cons, k_bin, k_bin2, k_neg, k_not, k_not2, k_and, k_and1, k_and0, k_or, k_or1, k_or0, k_cmp, k_cmp2, k_cmp3, k_c2, k_c2b, k_c2t, k_c2f, k_ite, k_ite1, k_ite0, k_call, k_ck, k_ck2, k_blt, k_isi, k_idx, k_idx2, k_sl, k_sl2, k_sl3, k_tup, k_tup2, k_lst, k_lst2, f_nil, f_cons, f_d, k_fz, k_fz2, k_comp, k_comp2, k_me2, k_es, k_es2, k_if, k_if1, k_if0, k_o, k_iL, k_iT, k_iK, k_r1, k_r2, k_r2b, k_sb, k_sb2, k_sb3, k_ts, k_as, k_as2, k_par, k_aug, k_aug2, k_ex, k_ret1, k_ret0, k_ret2, k_ifs, k_ifs1, k_ifs0, k_for, k_fo, k_foN, k_foC, k_foB, k_foR, k_sqN, k_sqC, k_sqB, k_sqR, k_fin, fin_d, fin_nx, c_nil, c_cons, k_cs, k_cs1, k_cs0, k_cs3, k_cs4, k_cs5, fo_nil, fo_cons, sizeL, evT, rb_ok, rb_no, q_add, q_sub, q_cmp, q_lt, q_le, q_gt, q_ge, q_eqI, q_neI, q_eqS, q_neS, q_isB, q_notB, q_isN, q_notN, q_truB, q_truI, q_truL, q_truT, q_truN, q_ixT, q_ixL, q_ixK, q_der, q_at0, q_at1, q_at2, q_at3, q_mkf, q_mkt, q_ixR, k_ixR, k_ix2, q_stR, k_stR, k_st2, q_slK, q_slL, fin_new, take_set, List.set_set, List.length_set, k_sqD0, ix30, ix31, ix32, b_lenL, b_lenT, b_lenK, b_int, b_intB, b_boolI, b_abs, b_max, b_min, b_tupL, b_tupT, b_gcd, b_listL, b_listT, b_listK, b_all, b_any, b_sum, asBools, asInts, Option.map_some, Option.map_none, isiD, List.map_cons, List.map_nil, List.cons_append, List.nil_append, List.append_nil, List.length_cons, List.length_nil, List.getElem?_cons_zero, List.getElem?_cons_succ, List.set_cons_zero, List.set_cons_succ, List.replicate, List.replicate_zero, List.replicate_succ, List.take_length, List.take_succ_cons, Nat.sub_self, setAll, if_true, if_false, Bool.false_eq_true, Nat.reduceAdd, Nat.reduceSub, Nat.reduceLeDiff, Nat.reduceLT, permU, List.filterMap_cons, List.filterMap_nil, wipeE, c1, i1, hz, decide_false])
theorem s_trimmed (n : Nat) (ys : List Int) (S : Sto) : call T (n + 1) 7 [.d (.list (ys.map PyData.int))] S = .ok (.d (.tuple ((trimL ys).map PyData.int))) S := by
  have hS : (S ++ [some (ys.map PyData.int)])[S.length]? = some (some (ys.map PyData.int)) := by simp
  have e := w_trimmed (T := T) n (some (.d (.list (ys.map PyData.int)))) _ ys _ rfl hS
  have g : (S ++ [some ((trimL ys).map PyData.int)])[S.length]? = some (some ((trimL ys).map PyData.int)) := by simp
  have st : (S ++ [some (ys.map PyData.int)]).set S.length (some ((trimL ys).map PyData.int)) = S ++ [some ((trimL ys).map PyData.int)] := by
    rw [List.set_append_right _ _ (Nat.le_refl _), Nat.sub_self]
    rfl
  rw [st] at e
  have tk : (S ++ [some ((trimL ys).map PyData.int)]).take S.length = S := by simp
  rw [call_at t_7 ⟨rfl, by decide⟩]
  simp only [c_7, i_zip3, k_z3, k_z3b, k_z3c, z3_cons, z3_nil, k_enT, k_o1r, e_op1, e_op2, e_comp2, k_o1, k_o2, k_o2b, k_db, k_db2, k_dbT, k_dbI1, k_dbI0, k_db1, k_dbN, k_dbM, d_nil, d_cons, i_enum, i_zip, i_rev, k_enL, k_zi, k_ziL, k_ziT, k_rvL, k_rvT, e_var, k_var, x_aug, k_au, k_me, e_con, e_bin, e_neg, e_not, e_and, e_or, e_cmp, e_cmp2, e_ite, e_call, e_callk, e_blt, e_isi, e_idx, e_sl, e_tup, e_lst, e_comp, e_meth, es_nil, es_cons, if_nil, if_cons, o_none, o_some, i_ex, i_r1, i_r2, g_name, g_sub, g_tup, g_tupL, gs_nil, gs_cons, x_asg, x_par, x_ex, x_ret, x_ifs, x_for, x_whl, x_pass, x_brk, x_cont, xs_nil, xs_cons, k_bin, k_bin2, k_neg, k_not, k_not2, k_and, k_and1, k_and0, k_or, k_or1, k_or0, k_cmp, k_cmp2, k_cmp3, k_c2, k_c2b, k_c2t, k_c2f, k_ite, k_ite1, k_ite0, k_call, k_ck, k_ck2, k_blt, k_isi, k_idx, k_idx2, k_sl, k_sl2, k_sl3, k_tup, k_tup2, k_lst, k_lst2, f_nil, f_cons, f_d, k_fz, k_fz2, k_comp, k_comp2, k_me2, k_es, k_es2, k_if, k_if1, k_if0, k_o, k_iL, k_iT, k_iK, k_r1, k_r2, k_r2b, k_sb, k_sb2, k_sb3, k_ts, k_as, k_as2, k_par, k_aug, k_aug2, k_ex, k_ret1, k_ret0, k_ret2, k_ifs, k_ifs1, k_ifs0, k_for, k_fo, k_foN, k_foC, k_foB, k_foR, k_sqN, k_sqC, k_sqB, k_sqR, k_fin, fin_d, fin_nx, c_nil, c_cons, k_cs, k_cs1, k_cs0, k_cs3, k_cs4, k_cs5, fo_nil, fo_cons, sizeL, evT, rb_ok, rb_no, q_add, q_sub, q_cmp, q_lt, q_le, q_gt, q_ge, q_eqI, q_neI, q_eqS, q_neS, q_isB, q_notB, q_isN, q_notN, q_truB, q_truI, q_truL, q_truT, q_truN, q_ixT, q_ixL, q_ixK, q_der, q_at0, q_at1, q_at2, q_at3, q_mkf, q_mkt, q_ixR, k_ixR, k_ix2, q_stR, k_stR, k_st2, q_slK, q_slL, fin_new, take_set, List.set_set, List.length_set, k_sqD0, ix30, ix31, ix32, b_lenL, b_lenT, b_lenK, b_int, b_intB, b_boolI, b_abs, b_max, b_min, b_tupL, b_tupT, b_gcd, b_listL, b_listT, b_listK, b_all, b_any, b_sum, asBools, asInts, Option.map_some, Option.map_none, isiD, List.map_cons, List.map_nil, List.cons_append, List.nil_append, List.append_nil, List.length_cons, List.length_nil, List.getElem?_cons_zero, List.getElem?_cons_succ, List.set_cons_zero, List.set_cons_succ, List.replicate, List.replicate_zero, List.replicate_succ, List.take_length, List.take_succ_cons, Nat.sub_self, setAll, if_true, if_false, Bool.false_eq_true, Nat.reduceAdd, Nat.reduceSub, Nat.reduceLeDiff, Nat.reduceLT, permU, List.filterMap_cons, List.filterMap_nil, wipeE, e, r_tup g, tk]
theorem s_trimmed_own (n : Nat) {S : Sto} {k : Nat} (ys : List Int) (hk : S[k]? = some (some (ys.map PyData.int))) : call T (n + 1) 7 [.r k] S = .ok (.d (.tuple ((trimL ys).map PyData.int))) S := by
  have hS : (S ++ [some (ys.map PyData.int)])[S.length]? = some (some (ys.map PyData.int)) := by simp
  have e := w_trimmed (T := T) n (some (.r k)) _ ys _ rfl hS
  have g : (S ++ [some ((trimL ys).map PyData.int)])[S.length]? = some (some ((trimL ys).map PyData.int)) := by simp
  have st : (S ++ [some (ys.map PyData.int)]).set S.length (some ((trimL ys).map PyData.int)) = S ++ [some ((trimL ys).map PyData.int)] := by
    rw [List.set_append_right _ _ (Nat.le_refl _), Nat.sub_self]
    rfl
  rw [st] at e
  have tk : (S ++ [some ((trimL ys).map PyData.int)]).take S.length = S := by simp
  have bl : bltU (.list true) [.r k] S = .ok (.r S.length) (S ++ [some (ys.map PyData.int)]) := by
    simp only [bltU, ders, r_der hk]
    rfl
  rw [call_at t_7 ⟨rfl, by decide⟩]
  simp only [c_7, i_zip3, k_z3, k_z3b, k_z3c, z3_cons, z3_nil, k_enT, k_o1r, e_op1, e_op2, e_comp2, k_o1, k_o2, k_o2b, k_db, k_db2, k_dbT, k_dbI1, k_dbI0, k_db1, k_dbN, k_dbM, d_nil, d_cons, i_enum, i_zip, i_rev, k_enL, k_zi, k_ziL, k_ziT, k_rvL, k_rvT, e_var, k_var, x_aug, k_au, k_me, e_con, e_bin, e_neg, e_not, e_and, e_or, e_cmp, e_cmp2, e_ite, e_call, e_callk, e_blt, e_isi, e_idx, e_sl, e_tup, e_lst, e_comp, e_meth, es_nil, es_cons, if_nil, if_cons, o_none, o_some, i_ex, i_r1, i_r2, g_name, g_sub, g_tup, g_tupL, gs_nil, gs_cons, x_asg, x_par, x_ex, x_ret, x_ifs, x_for, x_whl, x_pass, x_brk, x_cont, xs_nil, xs_cons, k_bin, k_bin2, k_neg, k_not, k_not2, k_and, k_and1, k_and0, k_or, k_or1, k_or0, k_cmp, k_cmp2, k_cmp3, k_c2, k_c2b, k_c2t, k_c2f, k_ite, k_ite1, k_ite0, k_call, k_ck, k_ck2, k_blt, k_isi, k_idx, k_idx2, k_sl, k_sl2, k_sl3, k_tup, k_tup2, k_lst, k_lst2, f_nil, f_cons, f_d, k_fz, k_fz2, k_comp, k_comp2, k_me2, k_es, k_es2, k_if, k_if1, k_if0, k_o, k_iL, k_iT, k_iK, k_r1, k_r2, k_r2b, k_sb, k_sb2, k_sb3, k_ts, k_as, k_as2, k_par, k_aug, k_aug2, k_ex, k_ret1, k_ret0, k_ret2, k_ifs, k_ifs1, k_ifs0, k_for, k_fo, k_foN, k_foC, k_foB, k_foR, k_sqN, k_sqC, k_sqB, k_sqR, k_fin, fin_d, fin_nx, c_nil, c_cons, k_cs, k_cs1, k_cs0, k_cs3, k_cs4, k_cs5, fo_nil, fo_cons, sizeL, evT, rb_ok, rb_no, q_add, q_sub, q_cmp, q_lt, q_le, q_gt, q_ge, q_eqI, q_neI, q_eqS, q_neS, q_isB, q_notB, q_isN, q_notN, q_truB, q_truI, q_truL, q_truT, q_truN, q_ixT, q_ixL, q_ixK, q_der, q_at0, q_at1, q_at2, q_at3, q_mkf, q_mkt, q_ixR, k_ixR, k_ix2, q_stR, k_stR, k_st2, q_slK, q_slL, fin_new, take_set, List.set_set, List.length_set, k_sqD0, ix30, ix31, ix32, b_lenL, b_lenT, b_lenK, b_int, b_intB, b_boolI, b_abs, b_max, b_min, b_tupL, b_tupT, b_gcd, b_listL, b_listT, b_listK, b_all, b_any, b_sum, asBools, asInts, Option.map_some, Option.map_none, isiD, List.map_cons, List.map_nil, List.cons_append, List.nil_append, List.append_nil, List.length_cons, List.length_nil, List.getElem?_cons_zero, List.getElem?_cons_succ, List.set_cons_zero, List.set_cons_succ, List.replicate, List.replicate_zero, List.replicate_succ, List.take_length, List.take_succ_cons, Nat.sub_self, setAll, if_true, if_false, Bool.false_eq_true, Nat.reduceAdd, Nat.reduceSub, Nat.reduceLeDiff, Nat.reduceLT, permU, List.filterMap_cons, List.filterMap_nil, wipeE, bl, e, r_tup g, tk]
theorem f_number_at (t : Nat) (S : Sto) (x0 x1 : Option U) {b c L : Nat} {n m : Int} (hn : Sm c n) (hm : Sm c m) (hL : b + L * (c + 2) ≤ 400000) : ∀ (l suf : List Int) (o : Option U), (∀ y ∈ l, Sm b y) → (∀ y ∈ suf, Sm b y) → l.length + suf.length ≤ L →
    ∃ o', forE (call T t) (.name 6) c_11_b0 [] (l.map PyData.int) [x0, x1, some (.d (.int n)), some (.d (.int m)), some (.d (.int (nu suf n m))), some (.d (.int (m ^ suf.length))), o] S = .ok (.nx [x0, x1, some (.d (.int n)), some (.d (.int m)), some (.d (.int (nu (l.reverse ++ suf) n m))), some (.d (.int (m ^ (l.reverse ++ suf).length))), o']) S
  | [], suf, o, _, _, _ => ⟨o, by simp only [List.map_nil, fo_nil, List.reverse_nil, List.nil_append]⟩
  | x :: l, suf, o, h1, h2, h3 => by
    obtain ⟨o', e⟩ := f_number_at t S x0 x1 hn hm hL l (x :: suf) (some (.d (.int x))) (fun y hy => h1 y (List.mem_cons_of_mem _ hy)) (fun y hy => by
      rcases List.mem_cons.mp hy with rfl | hy
      · exact h1 _ List.mem_cons_self
      · exact h2 y hy) (by simp only [List.length_cons] at *; omega)
    have sl : suf.length + 1 ≤ L := by simp only [List.length_cons] at h3; omega
    have sL : (suf.length + 1) * (c + 2) ≤ L * (c + 2) := Nat.mul_le_mul_right _ sl
    have sE : (suf.length + 1) * (c + 2) = suf.length * (c + 2) + (c + 2) := Nat.succ_mul _ _
    have n1 := nu_sm hn hm h2
    have p1 := pow_sm hm suf.length
    have hx := h1 x List.mem_cons_self
    have cs : c * suf.length ≤ suf.length * (c + 2) := by rw [Nat.mul_comm c]; exact Nat.mul_le_mul_left _ (by omega)
    have l1 : mulOk (nu suf n m) n = true := (MO.mk n1 hn (by omega)).ok
    have l2 : mulOk x (m ^ suf.length) = true := (MO.mk hx p1 (by omega)).ok
    have l3 : mulOk (m ^ suf.length) m = true := (MO.mk p1 hm (by omega)).ok
    refine ⟨o', ?_⟩
    rw [List.reverse_cons, List.append_assoc, List.singleton_append]
    rw [nu, List.length_cons, Int.pow_succ] at e
    simp only [List.map_cons, fo_cons]
    simp only [c_11_b0, i_zip3, k_z3, k_z3b, k_z3c, z3_cons, z3_nil, k_enT, k_o1r, e_op1, e_op2, e_comp2, k_o1, k_o2, k_o2b, k_db, k_db2, k_dbT, k_dbI1, k_dbI0, k_db1, k_dbN, k_dbM, d_nil, d_cons, i_enum, i_zip, i_rev, k_enL, k_zi, k_ziL, k_ziT, k_rvL, k_rvT, e_var, k_var, x_aug, k_au, k_me, e_con, e_bin, e_neg, e_not, e_and, e_or, e_cmp, e_cmp2, e_ite, e_call, e_callk, e_blt, e_isi, e_idx, e_sl, e_tup, e_lst, e_comp, e_meth, es_nil, es_cons, if_nil, if_cons, o_none, o_some, i_ex, i_r1, i_r2, g_name, g_sub, g_tup, g_tupL, gs_nil, gs_cons, x_asg, x_par, x_ex, x_ret, x_ifs, x_for, x_whl, x_pass, x_brk, x_cont, xs_nil, xs_cons, k_bin, k_bin2, k_neg, k_not, k_not2, k_and, k_and1, k_and0, k_or, k_or1, k_or0, k_cmp, k_cmp2, k_cmp3, k_c2, k_c2b, k_c2t, k_c2f, k_ite, k_ite1, k_ite0, k_call, k_ck, k_ck2, k_blt, k_isi, k_idx, k_idx2, k_sl, k_sl2, k_sl3, k_tup, k_tup2, k_lst, k_lst2, f_nil, f_cons, f_d, k_fz, k_fz2, k_comp, k_comp2, k_me2, k_es, k_es2, k_if, k_if1, k_if0, k_o, k_iL, k_iT, k_iK, k_r1, k_r2, k_r2b, k_sb, k_sb2, k_sb3, k_ts, k_as, k_as2, k_par, k_aug, k_aug2, k_ex, k_ret1, k_ret0, k_ret2, k_ifs, k_ifs1, k_ifs0, k_for, k_fo, k_foN, k_foC, k_foB, k_foR, k_sqN, k_sqC, k_sqB, k_sqR, k_fin, fin_d, fin_nx, c_nil, c_cons, k_cs, k_cs1, k_cs0, k_cs3, k_cs4, k_cs5, fo_nil, fo_cons, sizeL, evT, rb_ok, rb_no, q_add, q_sub, q_cmp, q_lt, q_le, q_gt, q_ge, q_eqI, q_neI, q_eqS, q_neS, q_isB, q_notB, q_isN, q_notN, q_truB, q_truI, q_truL, q_truT, q_truN, q_ixT, q_ixL, q_ixK, q_der, q_at0, q_at1, q_at2, q_at3, q_mkf, q_mkt, q_ixR, k_ixR, k_ix2, q_stR, k_stR, k_st2, q_slK, q_slL, fin_new, take_set, List.set_set, List.length_set, k_sqD0, ix30, ix31, ix32, b_lenL, b_lenT, b_lenK, b_int, b_intB, b_boolI, b_abs, b_max, b_min, b_tupL, b_tupT, b_gcd, b_listL, b_listT, b_listK, b_all, b_any, b_sum, asBools, asInts, Option.map_some, Option.map_none, isiD, List.map_cons, List.map_nil, List.cons_append, List.nil_append, List.append_nil, List.length_cons, List.length_nil, List.getElem?_cons_zero, List.getElem?_cons_succ, List.set_cons_zero, List.set_cons_succ, List.replicate, List.replicate_zero, List.replicate_succ, List.take_length, List.take_succ_cons, Nat.sub_self, setAll, if_true, if_false, Bool.false_eq_true, Nat.reduceAdd, Nat.reduceSub, Nat.reduceLeDiff, Nat.reduceLT, permU, List.filterMap_cons, List.filterMap_nil, wipeE, q_mulG _ _ l1, q_mulG _ _ l2, q_mulG _ _ l3]
    exact e
theorem s_number_at (t : Nat) (xs : List Int) {b c : Nat} {n m : Int} (hn : Sm c n) (hm : Sm c m) (hx : ∀ y ∈ xs, Sm b y) (hL : b + xs.length * (c + 2) ≤ 400000) (S : Sto) : call T (t + 1) 11 [.d (.tuple (xs.map PyData.int)), .d (.tuple [.int n, .int m])] S = .ok (.d (.int (nu xs n m))) S := by
  obtain ⟨o', e⟩ := f_number_at (T := T) t S (some (.d (.tuple (xs.map PyData.int)))) (some (.d (.tuple [.int n, .int m]))) hn hm (L := xs.length) hL xs.reverse [] none (fun y hy => hx y (List.mem_reverse.mp hy)) (fun y hy => by cases hy) (by simp)
  rw [List.reverse_reverse, List.append_nil, List.map_reverse] at e
  simp only [nu, List.length_nil, Int.pow_zero] at e
  rw [call_at t_11 ⟨rfl, by decide⟩]
  simp only [c_11, i_zip3, k_z3, k_z3b, k_z3c, z3_cons, z3_nil, k_enT, k_o1r, e_op1, e_op2, e_comp2, k_o1, k_o2, k_o2b, k_db, k_db2, k_dbT, k_dbI1, k_dbI0, k_db1, k_dbN, k_dbM, d_nil, d_cons, i_enum, i_zip, i_rev, k_enL, k_zi, k_ziL, k_ziT, k_rvL, k_rvT, e_var, k_var, x_aug, k_au, k_me, e_con, e_bin, e_neg, e_not, e_and, e_or, e_cmp, e_cmp2, e_ite, e_call, e_callk, e_blt, e_isi, e_idx, e_sl, e_tup, e_lst, e_comp, e_meth, es_nil, es_cons, if_nil, if_cons, o_none, o_some, i_ex, i_r1, i_r2, g_name, g_sub, g_tup, g_tupL, gs_nil, gs_cons, x_asg, x_par, x_ex, x_ret, x_ifs, x_for, x_whl, x_pass, x_brk, x_cont, xs_nil, xs_cons, k_bin, k_bin2, k_neg, k_not, k_not2, k_and, k_and1, k_and0, k_or, k_or1, k_or0, k_cmp, k_cmp2, k_cmp3, k_c2, k_c2b, k_c2t, k_c2f, k_ite, k_ite1, k_ite0, k_call, k_ck, k_ck2, k_blt, k_isi, k_idx, k_idx2, k_sl, k_sl2, k_sl3, k_tup, k_tup2, k_lst, k_lst2, f_nil, f_cons, f_d, k_fz, k_fz2, k_comp, k_comp2, k_me2, k_es, k_es2, k_if, k_if1, k_if0, k_o, k_iL, k_iT, k_iK, k_r1, k_r2, k_r2b, k_sb, k_sb2, k_sb3, k_ts, k_as, k_as2, k_par, k_aug, k_aug2, k_ex, k_ret1, k_ret0, k_ret2, k_ifs, k_ifs1, k_ifs0, k_for, k_fo, k_foN, k_foC, k_foB, k_foR, k_sqN, k_sqC, k_sqB, k_sqR, k_fin, fin_d, fin_nx, c_nil, c_cons, k_cs, k_cs1, k_cs0, k_cs3, k_cs4, k_cs5, fo_nil, fo_cons, sizeL, evT, rb_ok, rb_no, q_add, q_sub, q_cmp, q_lt, q_le, q_gt, q_ge, q_eqI, q_neI, q_eqS, q_neS, q_isB, q_notB, q_isN, q_notN, q_truB, q_truI, q_truL, q_truT, q_truN, q_ixT, q_ixL, q_ixK, q_der, q_at0, q_at1, q_at2, q_at3, q_mkf, q_mkt, q_ixR, k_ixR, k_ix2, q_stR, k_stR, k_st2, q_slK, q_slL, fin_new, take_set, List.set_set, List.length_set, k_sqD0, ix30, ix31, ix32, b_lenL, b_lenT, b_lenK, b_int, b_intB, b_boolI, b_abs, b_max, b_min, b_tupL, b_tupT, b_gcd, b_listL, b_listT, b_listK, b_all, b_any, b_sum, asBools, asInts, Option.map_some, Option.map_none, isiD, List.map_cons, List.map_nil, List.cons_append, List.nil_append, List.append_nil, List.length_cons, List.length_nil, List.getElem?_cons_zero, List.getElem?_cons_succ, List.set_cons_zero, List.set_cons_succ, List.replicate, List.replicate_zero, List.replicate_succ, List.take_length, List.take_succ_cons, Nat.sub_self, setAll, if_true, if_false, Bool.false_eq_true, Nat.reduceAdd, Nat.reduceSub, Nat.reduceLeDiff, Nat.reduceLT, permU, List.filterMap_cons, List.filterMap_nil, wipeE, e]
theorem f_value_at (t : Nat) (S : Sto) (x0 : Option U) {c L : Nat} {n m : Int} (hm : Sm c m) (hL : c * L ≤ 400000) (hc : c ≤ 400000) : ∀ (l : List D) (k : Nat) (o : Option U), k + l.length ≤ L →
    ∃ o', forE (call T t) (.name 3) c_14_b0 [] l [x0, some (.d (.tuple [.int n, .int m])), some (.d (.int (m ^ k))), o] S = .ok (.nx [x0, some (.d (.tuple [.int n, .int m])), some (.d (.int (m ^ (k + l.length)))), o']) S
  | [], k, o, _ => ⟨o, by simp only [fo_nil, List.length_nil, Nat.add_zero]⟩
  | x :: l, k, o, h => by
    obtain ⟨o', e⟩ := f_value_at t S x0 (n := n) hm hL hc l (k + 1) (some (.d x)) (by simp only [List.length_cons] at h; omega)
    have ck : c * k ≤ c * L := Nat.mul_le_mul_left _ (by omega)
    have l3 : mulOk (m ^ k) m = true := (MO.mk (pow_sm hm k) hm (by omega)).ok
    refine ⟨o', ?_⟩
    rw [show k + (x :: l).length = k + 1 + l.length by simp only [List.length_cons]; omega]
    rw [Int.pow_succ] at e
    simp only [fo_cons]
    simp only [c_14_b0, i_zip3, k_z3, k_z3b, k_z3c, z3_cons, z3_nil, k_enT, k_o1r, e_op1, e_op2, e_comp2, k_o1, k_o2, k_o2b, k_db, k_db2, k_dbT, k_dbI1, k_dbI0, k_db1, k_dbN, k_dbM, d_nil, d_cons, i_enum, i_zip, i_rev, k_enL, k_zi, k_ziL, k_ziT, k_rvL, k_rvT, e_var, k_var, x_aug, k_au, k_me, e_con, e_bin, e_neg, e_not, e_and, e_or, e_cmp, e_cmp2, e_ite, e_call, e_callk, e_blt, e_isi, e_idx, e_sl, e_tup, e_lst, e_comp, e_meth, es_nil, es_cons, if_nil, if_cons, o_none, o_some, i_ex, i_r1, i_r2, g_name, g_sub, g_tup, g_tupL, gs_nil, gs_cons, x_asg, x_par, x_ex, x_ret, x_ifs, x_for, x_whl, x_pass, x_brk, x_cont, xs_nil, xs_cons, k_bin, k_bin2, k_neg, k_not, k_not2, k_and, k_and1, k_and0, k_or, k_or1, k_or0, k_cmp, k_cmp2, k_cmp3, k_c2, k_c2b, k_c2t, k_c2f, k_ite, k_ite1, k_ite0, k_call, k_ck, k_ck2, k_blt, k_isi, k_idx, k_idx2, k_sl, k_sl2, k_sl3, k_tup, k_tup2, k_lst, k_lst2, f_nil, f_cons, f_d, k_fz, k_fz2, k_comp, k_comp2, k_me2, k_es, k_es2, k_if, k_if1, k_if0, k_o, k_iL, k_iT, k_iK, k_r1, k_r2, k_r2b, k_sb, k_sb2, k_sb3, k_ts, k_as, k_as2, k_par, k_aug, k_aug2, k_ex, k_ret1, k_ret0, k_ret2, k_ifs, k_ifs1, k_ifs0, k_for, k_fo, k_foN, k_foC, k_foB, k_foR, k_sqN, k_sqC, k_sqB, k_sqR, k_fin, fin_d, fin_nx, c_nil, c_cons, k_cs, k_cs1, k_cs0, k_cs3, k_cs4, k_cs5, fo_nil, fo_cons, sizeL, evT, rb_ok, rb_no, q_add, q_sub, q_cmp, q_lt, q_le, q_gt, q_ge, q_eqI, q_neI, q_eqS, q_neS, q_isB, q_notB, q_isN, q_notN, q_truB, q_truI, q_truL, q_truT, q_truN, q_ixT, q_ixL, q_ixK, q_der, q_at0, q_at1, q_at2, q_at3, q_mkf, q_mkt, q_ixR, k_ixR, k_ix2, q_stR, k_stR, k_st2, q_slK, q_slL, fin_new, take_set, List.set_set, List.length_set, k_sqD0, ix30, ix31, ix32, b_lenL, b_lenT, b_lenK, b_int, b_intB, b_boolI, b_abs, b_max, b_min, b_tupL, b_tupT, b_gcd, b_listL, b_listT, b_listK, b_all, b_any, b_sum, asBools, asInts, Option.map_some, Option.map_none, isiD, List.map_cons, List.map_nil, List.cons_append, List.nil_append, List.append_nil, List.length_cons, List.length_nil, List.getElem?_cons_zero, List.getElem?_cons_succ, List.set_cons_zero, List.set_cons_succ, List.replicate, List.replicate_zero, List.replicate_succ, List.take_length, List.take_succ_cons, Nat.sub_self, setAll, if_true, if_false, Bool.false_eq_true, Nat.reduceAdd, Nat.reduceSub, Nat.reduceLeDiff, Nat.reduceLT, permU, List.filterMap_cons, List.filterMap_nil, wipeE, q_mulG _ _ l3]
    exact e
theorem s_value_at (t : Nat) (xs : List Int) (ht : trimL xs = xs) {b c : Nat} {n m : Int} (hm0 : 0 < m) (hg : gcL [n, m] = 1) (hn : Sm c n) (hm : Sm c m) (hx : ∀ y ∈ xs, Sm b y) (hL : b + xs.length * (c + 2) ≤ 8000) (hl : xs.length ≤ 4000) (S : Sto) : call T (t + 5) 14 [.d (.tuple (xs.map PyData.int)), .d (.tuple [.int n, .int m])] S = .ok (.d (.tuple ((redL [nu xs n m, m ^ (xs.length - 1)]).map PyData.int))) S := by
  have cL : c * xs.length ≤ xs.length * (c + 2) := by rw [Nat.mul_comm c]; exact Nat.mul_le_mul_left _ (by omega)
  have cl1 : c * (xs.length - 1) ≤ c * xs.length := Nat.mul_le_mul_left _ (by omega)
  by_cases hc : c ≤ 400000
  case neg =>
    have x0 : xs = [] := by
      cases xs with
      | nil => rfl
      | cons x r =>
        exfalso
        have : (r.length + 1) * (c + 2) = r.length * (c + 2) + (c + 2) := Nat.succ_mul _ _
        simp only [List.length_cons] at hL
        omega
    subst x0
    rw [call_at t_14 ⟨rfl, by decide⟩]
    have e1 := s_check_polynomial (T := T) (t + 1) [] (by simp) rfl S
    have e2 := s_number_at (T := T) (t + 3) [] hn hm (b := 0) (fun y hy => by cases hy) (by simp) S
    have e3 := s_ratio_of (T := T) (t + 3) 0 1 S (by decide) (by decide)
    simp only [List.map_nil, nu, List.length_nil, Nat.zero_sub, Int.pow_zero] at e1 e2 ⊢
    have cu : cutD ([] : List D) (some 1) none = [] := rfl
    simp only [c_14, i_zip3, k_z3, k_z3b, k_z3c, z3_cons, z3_nil, k_enT, k_o1r, e_op1, e_op2, e_comp2, k_o1, k_o2, k_o2b, k_db, k_db2, k_dbT, k_dbI1, k_dbI0, k_db1, k_dbN, k_dbM, d_nil, d_cons, i_enum, i_zip, i_rev, k_enL, k_zi, k_ziL, k_ziT, k_rvL, k_rvT, e_var, k_var, x_aug, k_au, k_me, e_con, e_bin, e_neg, e_not, e_and, e_or, e_cmp, e_cmp2, e_ite, e_call, e_callk, e_blt, e_isi, e_idx, e_sl, e_tup, e_lst, e_comp, e_meth, es_nil, es_cons, if_nil, if_cons, o_none, o_some, i_ex, i_r1, i_r2, g_name, g_sub, g_tup, g_tupL, gs_nil, gs_cons, x_asg, x_par, x_ex, x_ret, x_ifs, x_for, x_whl, x_pass, x_brk, x_cont, xs_nil, xs_cons, k_bin, k_bin2, k_neg, k_not, k_not2, k_and, k_and1, k_and0, k_or, k_or1, k_or0, k_cmp, k_cmp2, k_cmp3, k_c2, k_c2b, k_c2t, k_c2f, k_ite, k_ite1, k_ite0, k_call, k_ck, k_ck2, k_blt, k_isi, k_idx, k_idx2, k_sl, k_sl2, k_sl3, k_tup, k_tup2, k_lst, k_lst2, f_nil, f_cons, f_d, k_fz, k_fz2, k_comp, k_comp2, k_me2, k_es, k_es2, k_if, k_if1, k_if0, k_o, k_iL, k_iT, k_iK, k_r1, k_r2, k_r2b, k_sb, k_sb2, k_sb3, k_ts, k_as, k_as2, k_par, k_aug, k_aug2, k_ex, k_ret1, k_ret0, k_ret2, k_ifs, k_ifs1, k_ifs0, k_for, k_fo, k_foN, k_foC, k_foB, k_foR, k_sqN, k_sqC, k_sqB, k_sqR, k_fin, fin_d, fin_nx, c_nil, c_cons, k_cs, k_cs1, k_cs0, k_cs3, k_cs4, k_cs5, fo_nil, fo_cons, sizeL, evT, rb_ok, rb_no, q_add, q_sub, q_cmp, q_lt, q_le, q_gt, q_ge, q_eqI, q_neI, q_eqS, q_neS, q_isB, q_notB, q_isN, q_notN, q_truB, q_truI, q_truL, q_truT, q_truN, q_ixT, q_ixL, q_ixK, q_der, q_at0, q_at1, q_at2, q_at3, q_mkf, q_mkt, q_ixR, k_ixR, k_ix2, q_stR, k_stR, k_st2, q_slK, q_slL, fin_new, take_set, List.set_set, List.length_set, k_sqD0, ix30, ix31, ix32, b_lenL, b_lenT, b_lenK, b_int, b_intB, b_boolI, b_abs, b_max, b_min, b_tupL, b_tupT, b_gcd, b_listL, b_listT, b_listK, b_all, b_any, b_sum, asBools, asInts, Option.map_some, Option.map_none, isiD, List.map_cons, List.map_nil, List.cons_append, List.nil_append, List.append_nil, List.length_cons, List.length_nil, List.getElem?_cons_zero, List.getElem?_cons_succ, List.set_cons_zero, List.set_cons_succ, List.replicate, List.replicate_zero, List.replicate_succ, List.take_length, List.take_succ_cons, Nat.sub_self, setAll, if_true, if_false, Bool.false_eq_true, Nat.reduceAdd, Nat.reduceSub, Nat.reduceLeDiff, Nat.reduceLT, permU, List.filterMap_cons, List.filterMap_nil, wipeE, e1, s_check_ratio _ _ _ _ hm0 hg, q_slT, cu, e2, e3]
  case pos =>
  obtain ⟨o', e⟩ := f_value_at (T := T) (t + 4) S (some (.d (.tuple (xs.map PyData.int)))) (n := n) hm (L := xs.length) (by omega) hc ((xs.map PyData.int).drop 1) 0 none (by simp)
  rw [Int.pow_zero, show 0 + ((xs.map PyData.int).drop 1).length = xs.length - 1 by simp] at e
  have cu := cut_from1 (xs.map PyData.int)
  have sn := nu_sm hn hm hx
  have sp := pow_sm hm (xs.length - 1)
  have gs := gcL_sm (k := 8001) (ns := [nu xs n m, m ^ (xs.length - 1)]) (fun y hy => by
    simp only [List.mem_cons, List.not_mem_nil, or_false] at hy
    rcases hy with rfl | rfl
    · exact sn.mono (by omega)
    · exact sp.mono (by omega))
  have lg := gs.log (show 8001 ≤ 9000 by decide) (by decide)
  have e3 := fun S => s_ratio_of (T := T) (t + 3) _ _ S (Int.pow_pos hm0) lg
  rw [call_at t_14 ⟨rfl, by decide⟩]
  simp only [c_14, xs_cons, x_ex, e_call, es_cons, es_nil, e_var, k_var, List.getElem?_cons_zero, List.getElem?_cons_succ, k_es, k_es2, k_call, s_check_polynomial _ _ (show xs.length < 16777216 by omega) ht, k_ex, k_sqN, s_check_ratio _ _ _ _ hm0 hg, x_asg, e_con, k_as, k_as2, g_name, List.set_cons_zero, List.set_cons_succ, setAll, List.length_cons, List.length_nil, Nat.reduceAdd, Nat.reduceSub, List.replicate, List.cons_append, List.nil_append, List.map_cons, List.map_nil]
  simp only [x_for, i_ex, e_sl, e_var, k_var, List.getElem?_cons_zero, List.getElem?_cons_succ, k_sl, o_some, o_none, e_con, k_o, k_sl2, k_sl3, q_slT, cu, k_iT, k_for, e, k_sqN]
  simp only [i_zip3, k_z3, k_z3b, k_z3c, z3_cons, z3_nil, k_enT, k_o1r, e_op1, e_op2, e_comp2, k_o1, k_o2, k_o2b, k_db, k_db2, k_dbT, k_dbI1, k_dbI0, k_db1, k_dbN, k_dbM, d_nil, d_cons, i_enum, i_zip, i_rev, k_enL, k_zi, k_ziL, k_ziT, k_rvL, k_rvT, e_var, k_var, x_aug, k_au, k_me, e_con, e_bin, e_neg, e_not, e_and, e_or, e_cmp, e_cmp2, e_ite, e_call, e_callk, e_blt, e_isi, e_idx, e_sl, e_tup, e_lst, e_comp, e_meth, es_nil, es_cons, if_nil, if_cons, o_none, o_some, i_ex, i_r1, i_r2, g_name, g_sub, g_tup, g_tupL, gs_nil, gs_cons, x_asg, x_par, x_ex, x_ret, x_ifs, x_for, x_whl, x_pass, x_brk, x_cont, xs_nil, xs_cons, k_bin, k_bin2, k_neg, k_not, k_not2, k_and, k_and1, k_and0, k_or, k_or1, k_or0, k_cmp, k_cmp2, k_cmp3, k_c2, k_c2b, k_c2t, k_c2f, k_ite, k_ite1, k_ite0, k_call, k_ck, k_ck2, k_blt, k_isi, k_idx, k_idx2, k_sl, k_sl2, k_sl3, k_tup, k_tup2, k_lst, k_lst2, f_nil, f_cons, f_d, k_fz, k_fz2, k_comp, k_comp2, k_me2, k_es, k_es2, k_if, k_if1, k_if0, k_o, k_iL, k_iT, k_iK, k_r1, k_r2, k_r2b, k_sb, k_sb2, k_sb3, k_ts, k_as, k_as2, k_par, k_aug, k_aug2, k_ex, k_ret1, k_ret0, k_ret2, k_ifs, k_ifs1, k_ifs0, k_for, k_fo, k_foN, k_foC, k_foB, k_foR, k_sqN, k_sqC, k_sqB, k_sqR, k_fin, fin_d, fin_nx, c_nil, c_cons, k_cs, k_cs1, k_cs0, k_cs3, k_cs4, k_cs5, fo_nil, fo_cons, sizeL, evT, rb_ok, rb_no, q_add, q_sub, q_cmp, q_lt, q_le, q_gt, q_ge, q_eqI, q_neI, q_eqS, q_neS, q_isB, q_notB, q_isN, q_notN, q_truB, q_truI, q_truL, q_truT, q_truN, q_ixT, q_ixL, q_ixK, q_der, q_at0, q_at1, q_at2, q_at3, q_mkf, q_mkt, q_ixR, k_ixR, k_ix2, q_stR, k_stR, k_st2, q_slK, q_slL, fin_new, take_set, List.set_set, List.length_set, k_sqD0, ix30, ix31, ix32, b_lenL, b_lenT, b_lenK, b_int, b_intB, b_boolI, b_abs, b_max, b_min, b_tupL, b_tupT, b_gcd, b_listL, b_listT, b_listK, b_all, b_any, b_sum, asBools, asInts, Option.map_some, Option.map_none, isiD, List.map_cons, List.map_nil, List.cons_append, List.nil_append, List.append_nil, List.length_cons, List.length_nil, List.getElem?_cons_zero, List.getElem?_cons_succ, List.set_cons_zero, List.set_cons_succ, List.replicate, List.replicate_zero, List.replicate_succ, List.take_length, List.take_succ_cons, Nat.sub_self, setAll, if_true, if_false, Bool.false_eq_true, Nat.reduceAdd, Nat.reduceSub, Nat.reduceLeDiff, Nat.reduceLT, permU, List.filterMap_cons, List.filterMap_nil, wipeE, s_number_at _ _ hn hm hx (show b + xs.length * (c + 2) ≤ 400000 by omega), e3]
theorem q_pad (S : Sto) {m l : Nat} (h : l ≤ m) (hm : m ≤ 10000) : binU false .Mult (.d (.list [.int 0])) (.d (.int ((m : Int) - (l : Int)))) S = .ok (.d (.list ((List.replicate (m - l) (0 : Int)).map PyData.int))) S := by
  have e : ((m : Int) - (l : Int)).toNat = m - l := by omega
  have f : ∀ k : Nat, (List.replicate k [PyData.int 0]).flatten = (List.replicate k (0 : Int)).map PyData.int := fun k => by
    induction k with
    | zero => rfl
    | succ k ih => rw [List.replicate_succ, List.flatten_cons, ih, List.replicate_succ, List.map_cons]; rfl
  have c : -(2 ^ 63 : Int) ≤ (m : Int) - (l : Int) ∧ (m : Int) - (l : Int) < 2 ^ 63 ∧ [PyData.int 0].length * ((m : Int) - (l : Int)).toNat ≤ sizeLine := by
    rw [e, sizeL, List.length_cons, List.length_nil]
    omega
  rw [q_rep, if_pos c, e, f]
  rfl
theorem pad_map (xs : List Int) (m : Nat) : xs.map PyData.int ++ (List.replicate (m - xs.length) (0 : Int)).map PyData.int = (padL xs m).map PyData.int := by
  rw [← List.map_append]
  rfl
theorem s_padded (n : Nat) (xs : List Int) {m : Nat} (h : xs.length ≤ m) (hm : m ≤ 10000) (S : Sto) : call T (n + 1) 9 [.d (.tuple (xs.map PyData.int)), .d (.int (m : Int))] S = .ok (.d (.list ((padL xs m).map PyData.int))) S := by
  have l1 : xs.length + (m - xs.length) ≤ 16777216 := by omega
  rw [call_at t_9 ⟨rfl, by decide⟩]
  simp only [c_9, i_zip3, k_z3, k_z3b, k_z3c, z3_cons, z3_nil, k_enT, k_o1r, e_op1, e_op2, e_comp2, k_o1, k_o2, k_o2b, k_db, k_db2, k_dbT, k_dbI1, k_dbI0, k_db1, k_dbN, k_dbM, d_nil, d_cons, i_enum, i_zip, i_rev, k_enL, k_zi, k_ziL, k_ziT, k_rvL, k_rvT, e_var, k_var, x_aug, k_au, k_me, e_con, e_bin, e_neg, e_not, e_and, e_or, e_cmp, e_cmp2, e_ite, e_call, e_callk, e_blt, e_isi, e_idx, e_sl, e_tup, e_lst, e_comp, e_meth, es_nil, es_cons, if_nil, if_cons, o_none, o_some, i_ex, i_r1, i_r2, g_name, g_sub, g_tup, g_tupL, gs_nil, gs_cons, x_asg, x_par, x_ex, x_ret, x_ifs, x_for, x_whl, x_pass, x_brk, x_cont, xs_nil, xs_cons, k_bin, k_bin2, k_neg, k_not, k_not2, k_and, k_and1, k_and0, k_or, k_or1, k_or0, k_cmp, k_cmp2, k_cmp3, k_c2, k_c2b, k_c2t, k_c2f, k_ite, k_ite1, k_ite0, k_call, k_ck, k_ck2, k_blt, k_isi, k_idx, k_idx2, k_sl, k_sl2, k_sl3, k_tup, k_tup2, k_lst, k_lst2, f_nil, f_cons, f_d, k_fz, k_fz2, k_comp, k_comp2, k_me2, k_es, k_es2, k_if, k_if1, k_if0, k_o, k_iL, k_iT, k_iK, k_r1, k_r2, k_r2b, k_sb, k_sb2, k_sb3, k_ts, k_as, k_as2, k_par, k_aug, k_aug2, k_ex, k_ret1, k_ret0, k_ret2, k_ifs, k_ifs1, k_ifs0, k_for, k_fo, k_foN, k_foC, k_foB, k_foR, k_sqN, k_sqC, k_sqB, k_sqR, k_fin, fin_d, fin_nx, c_nil, c_cons, k_cs, k_cs1, k_cs0, k_cs3, k_cs4, k_cs5, fo_nil, fo_cons, sizeL, evT, rb_ok, rb_no, q_add, q_sub, q_cmp, q_lt, q_le, q_gt, q_ge, q_eqI, q_neI, q_eqS, q_neS, q_isB, q_notB, q_isN, q_notN, q_truB, q_truI, q_truL, q_truT, q_truN, q_ixT, q_ixL, q_ixK, q_der, q_at0, q_at1, q_at2, q_at3, q_mkf, q_mkt, q_ixR, k_ixR, k_ix2, q_stR, k_stR, k_st2, q_slK, q_slL, fin_new, take_set, List.set_set, List.length_set, k_sqD0, ix30, ix31, ix32, b_lenL, b_lenT, b_lenK, b_int, b_intB, b_boolI, b_abs, b_max, b_min, b_tupL, b_tupT, b_gcd, b_listL, b_listT, b_listK, b_all, b_any, b_sum, asBools, asInts, Option.map_some, Option.map_none, isiD, List.map_cons, List.map_nil, List.cons_append, List.nil_append, List.append_nil, List.length_cons, List.length_nil, List.getElem?_cons_zero, List.getElem?_cons_succ, List.set_cons_zero, List.set_cons_succ, List.replicate, List.replicate_zero, List.replicate_succ, List.take_length, List.take_succ_cons, Nat.sub_self, setAll, if_true, if_false, Bool.false_eq_true, Nat.reduceAdd, Nat.reduceSub, Nat.reduceLeDiff, Nat.reduceLT, permU, List.filterMap_cons, List.filterMap_nil, wipeE, List.length_map, q_pad _ h hm, q_cat, List.length_replicate, l1, pad_map]
theorem max_len (a b : Nat) : (if (b : Int) > (a : Int) then (b : Int) else (a : Int)) = ((max a b : Nat) : Int) := by split <;> omega
theorem s_summed (n : Nat) (xs ys : List Int) (hx : xs.length ≤ 5000) (hy : ys.length ≤ 5000) (S : Sto) : call T (n + 2) 8 [.d (.tuple (xs.map PyData.int)), .d (.tuple (ys.map PyData.int))] S = .ok (.d (.tuple ((sumL xs ys).map PyData.int))) S := by
  have e1 := fun S => s_padded (T := T) n xs (m := max xs.length ys.length) (by omega) (by omega) S
  have e2 := fun S => s_padded (T := T) n ys (m := max xs.length ys.length) (by omega) (by omega) S
  have e3 := fun S => s_trimmed (T := T) n (addL xs ys) S
  have c : ∀ (a b d e f g o : Option U), compE (call T (n + 1)) [a, b, d, e, f, g, o] [5, 6] (.tup (.cons (.name 5) (.cons (.name 6) .nil))) .nil (.bin false .Add (.var 5) (.var 6)) [] (((padL xs (max xs.length ys.length)).zip (padL ys (max xs.length ys.length))).map fun p => PyData.tuple [.int p.1, .int p.2]) S = .ok ((addL xs ys).map PyData.int) S := fun a b d e f g o => by
    have := c_all (C := call T (n + 1)) (env := [a, b, d, e, f, g, o]) (own := [5, 6]) (tg := .tup (.cons (.name 5) (.cons (.name 6) .nil))) (elt := .bin false .Add (.var 5) (.var 6)) (S := S) (fun p : Int × Int => PyData.tuple [.int p.1, .int p.2]) (fun p => PyData.int (p.1 + p.2)) ((padL xs (max xs.length ys.length)).zip (padL ys (max xs.length ys.length))) fun p _ => ⟨[a, b, d, e, f, some (.d (.int p.1)), some (.d (.int p.2))], by simp only [i_zip3, k_z3, k_z3b, k_z3c, z3_cons, z3_nil, k_enT, k_o1r, e_op1, e_op2, e_comp2, k_o1, k_o2, k_o2b, k_db, k_db2, k_dbT, k_dbI1, k_dbI0, k_db1, k_dbN, k_dbM, d_nil, d_cons, i_enum, i_zip, i_rev, k_enL, k_zi, k_ziL, k_ziT, k_rvL, k_rvT, e_var, k_var, x_aug, k_au, k_me, e_con, e_bin, e_neg, e_not, e_and, e_or, e_cmp, e_cmp2, e_ite, e_call, e_callk, e_blt, e_isi, e_idx, e_sl, e_tup, e_lst, e_comp, e_meth, es_nil, es_cons, if_nil, if_cons, o_none, o_some, i_ex, i_r1, i_r2, g_name, g_sub, g_tup, g_tupL, gs_nil, gs_cons, x_asg, x_par, x_ex, x_ret, x_ifs, x_for, x_whl, x_pass, x_brk, x_cont, xs_nil, xs_cons, k_bin, k_bin2, k_neg, k_not, k_not2, k_and, k_and1, k_and0, k_or, k_or1, k_or0, k_cmp, k_cmp2, k_cmp3, k_c2, k_c2b, k_c2t, k_c2f, k_ite, k_ite1, k_ite0, k_call, k_ck, k_ck2, k_blt, k_isi, k_idx, k_idx2, k_sl, k_sl2, k_sl3, k_tup, k_tup2, k_lst, k_lst2, f_nil, f_cons, f_d, k_fz, k_fz2, k_comp, k_comp2, k_me2, k_es, k_es2, k_if, k_if1, k_if0, k_o, k_iL, k_iT, k_iK, k_r1, k_r2, k_r2b, k_sb, k_sb2, k_sb3, k_ts, k_as, k_as2, k_par, k_aug, k_aug2, k_ex, k_ret1, k_ret0, k_ret2, k_ifs, k_ifs1, k_ifs0, k_for, k_fo, k_foN, k_foC, k_foB, k_foR, k_sqN, k_sqC, k_sqB, k_sqR, k_fin, fin_d, fin_nx, c_nil, c_cons, k_cs, k_cs1, k_cs0, k_cs3, k_cs4, k_cs5, fo_nil, fo_cons, sizeL, evT, rb_ok, rb_no, q_add, q_sub, q_cmp, q_lt, q_le, q_gt, q_ge, q_eqI, q_neI, q_eqS, q_neS, q_isB, q_notB, q_isN, q_notN, q_truB, q_truI, q_truL, q_truT, q_truN, q_ixT, q_ixL, q_ixK, q_der, q_at0, q_at1, q_at2, q_at3, q_mkf, q_mkt, q_ixR, k_ixR, k_ix2, q_stR, k_stR, k_st2, q_slK, q_slL, fin_new, take_set, List.set_set, List.length_set, k_sqD0, ix30, ix31, ix32, b_lenL, b_lenT, b_lenK, b_int, b_intB, b_boolI, b_abs, b_max, b_min, b_tupL, b_tupT, b_gcd, b_listL, b_listT, b_listK, b_all, b_any, b_sum, asBools, asInts, Option.map_some, Option.map_none, isiD, List.map_cons, List.map_nil, List.cons_append, List.nil_append, List.append_nil, List.length_cons, List.length_nil, List.getElem?_cons_zero, List.getElem?_cons_succ, List.set_cons_zero, List.set_cons_succ, List.replicate, List.replicate_zero, List.replicate_succ, List.take_length, List.take_succ_cons, Nat.sub_self, setAll, if_true, if_false, Bool.false_eq_true, Nat.reduceAdd, Nat.reduceSub, Nat.reduceLeDiff, Nat.reduceLT, permU, List.filterMap_cons, List.filterMap_nil, wipeE], by simp only [i_zip3, k_z3, k_z3b, k_z3c, z3_cons, z3_nil, k_enT, k_o1r, e_op1, e_op2, e_comp2, k_o1, k_o2, k_o2b, k_db, k_db2, k_dbT, k_dbI1, k_dbI0, k_db1, k_dbN, k_dbM, d_nil, d_cons, i_enum, i_zip, i_rev, k_enL, k_zi, k_ziL, k_ziT, k_rvL, k_rvT, e_var, k_var, x_aug, k_au, k_me, e_con, e_bin, e_neg, e_not, e_and, e_or, e_cmp, e_cmp2, e_ite, e_call, e_callk, e_blt, e_isi, e_idx, e_sl, e_tup, e_lst, e_comp, e_meth, es_nil, es_cons, if_nil, if_cons, o_none, o_some, i_ex, i_r1, i_r2, g_name, g_sub, g_tup, g_tupL, gs_nil, gs_cons, x_asg, x_par, x_ex, x_ret, x_ifs, x_for, x_whl, x_pass, x_brk, x_cont, xs_nil, xs_cons, k_bin, k_bin2, k_neg, k_not, k_not2, k_and, k_and1, k_and0, k_or, k_or1, k_or0, k_cmp, k_cmp2, k_cmp3, k_c2, k_c2b, k_c2t, k_c2f, k_ite, k_ite1, k_ite0, k_call, k_ck, k_ck2, k_blt, k_isi, k_idx, k_idx2, k_sl, k_sl2, k_sl3, k_tup, k_tup2, k_lst, k_lst2, f_nil, f_cons, f_d, k_fz, k_fz2, k_comp, k_comp2, k_me2, k_es, k_es2, k_if, k_if1, k_if0, k_o, k_iL, k_iT, k_iK, k_r1, k_r2, k_r2b, k_sb, k_sb2, k_sb3, k_ts, k_as, k_as2, k_par, k_aug, k_aug2, k_ex, k_ret1, k_ret0, k_ret2, k_ifs, k_ifs1, k_ifs0, k_for, k_fo, k_foN, k_foC, k_foB, k_foR, k_sqN, k_sqC, k_sqB, k_sqR, k_fin, fin_d, fin_nx, c_nil, c_cons, k_cs, k_cs1, k_cs0, k_cs3, k_cs4, k_cs5, fo_nil, fo_cons, sizeL, evT, rb_ok, rb_no, q_add, q_sub, q_cmp, q_lt, q_le, q_gt, q_ge, q_eqI, q_neI, q_eqS, q_neS, q_isB, q_notB, q_isN, q_notN, q_truB, q_truI, q_truL, q_truT, q_truN, q_ixT, q_ixL, q_ixK, q_der, q_at0, q_at1, q_at2, q_at3, q_mkf, q_mkt, q_ixR, k_ixR, k_ix2, q_stR, k_stR, k_st2, q_slK, q_slL, fin_new, take_set, List.set_set, List.length_set, k_sqD0, ix30, ix31, ix32, b_lenL, b_lenT, b_lenK, b_int, b_intB, b_boolI, b_abs, b_max, b_min, b_tupL, b_tupT, b_gcd, b_listL, b_listT, b_listK, b_all, b_any, b_sum, asBools, asInts, Option.map_some, Option.map_none, isiD, List.map_cons, List.map_nil, List.cons_append, List.nil_append, List.append_nil, List.length_cons, List.length_nil, List.getElem?_cons_zero, List.getElem?_cons_succ, List.set_cons_zero, List.set_cons_succ, List.replicate, List.replicate_zero, List.replicate_succ, List.take_length, List.take_succ_cons, Nat.sub_self, setAll, if_true, if_false, Bool.false_eq_true, Nat.reduceAdd, Nat.reduceSub, Nat.reduceLeDiff, Nat.reduceLT, permU, List.filterMap_cons, List.filterMap_nil, wipeE]⟩
    rw [this]
    unfold addL
    rw [zipWith_zip, List.map_map]
    rfl
  have l1 : (zipD ((padL xs (max xs.length ys.length)).map PyData.int) ((padL ys (max xs.length ys.length)).map PyData.int)).length < 16777216 := by
    rw [zip_ints, List.length_map, List.length_zip, pad_len (by omega), pad_len (by omega)]
    omega
  rw [call_at t_8 ⟨rfl, by decide⟩]
  simp only [c_8, i_zip3, k_z3, k_z3b, k_z3c, z3_cons, z3_nil, k_enT, k_o1r, e_op1, e_op2, e_comp2, k_o1, k_o2, k_o2b, k_db, k_db2, k_dbT, k_dbI1, k_dbI0, k_db1, k_dbN, k_dbM, d_nil, d_cons, i_enum, i_zip, i_rev, k_enL, k_zi, k_ziL, k_ziT, k_rvL, k_rvT, e_var, k_var, x_aug, k_au, k_me, e_con, e_bin, e_neg, e_not, e_and, e_or, e_cmp, e_cmp2, e_ite, e_call, e_callk, e_blt, e_isi, e_idx, e_sl, e_tup, e_lst, e_comp, e_meth, es_nil, es_cons, if_nil, if_cons, o_none, o_some, i_ex, i_r1, i_r2, g_name, g_sub, g_tup, g_tupL, gs_nil, gs_cons, x_asg, x_par, x_ex, x_ret, x_ifs, x_for, x_whl, x_pass, x_brk, x_cont, xs_nil, xs_cons, k_bin, k_bin2, k_neg, k_not, k_not2, k_and, k_and1, k_and0, k_or, k_or1, k_or0, k_cmp, k_cmp2, k_cmp3, k_c2, k_c2b, k_c2t, k_c2f, k_ite, k_ite1, k_ite0, k_call, k_ck, k_ck2, k_blt, k_isi, k_idx, k_idx2, k_sl, k_sl2, k_sl3, k_tup, k_tup2, k_lst, k_lst2, f_nil, f_cons, f_d, k_fz, k_fz2, k_comp, k_comp2, k_me2, k_es, k_es2, k_if, k_if1, k_if0, k_o, k_iL, k_iT, k_iK, k_r1, k_r2, k_r2b, k_sb, k_sb2, k_sb3, k_ts, k_as, k_as2, k_par, k_aug, k_aug2, k_ex, k_ret1, k_ret0, k_ret2, k_ifs, k_ifs1, k_ifs0, k_for, k_fo, k_foN, k_foC, k_foB, k_foR, k_sqN, k_sqC, k_sqB, k_sqR, k_fin, fin_d, fin_nx, c_nil, c_cons, k_cs, k_cs1, k_cs0, k_cs3, k_cs4, k_cs5, fo_nil, fo_cons, sizeL, evT, rb_ok, rb_no, q_add, q_sub, q_cmp, q_lt, q_le, q_gt, q_ge, q_eqI, q_neI, q_eqS, q_neS, q_isB, q_notB, q_isN, q_notN, q_truB, q_truI, q_truL, q_truT, q_truN, q_ixT, q_ixL, q_ixK, q_der, q_at0, q_at1, q_at2, q_at3, q_mkf, q_mkt, q_ixR, k_ixR, k_ix2, q_stR, k_stR, k_st2, q_slK, q_slL, fin_new, take_set, List.set_set, List.length_set, k_sqD0, ix30, ix31, ix32, b_lenL, b_lenT, b_lenK, b_int, b_intB, b_boolI, b_abs, b_max, b_min, b_tupL, b_tupT, b_gcd, b_listL, b_listT, b_listK, b_all, b_any, b_sum, asBools, asInts, Option.map_some, Option.map_none, isiD, List.map_cons, List.map_nil, List.cons_append, List.nil_append, List.append_nil, List.length_cons, List.length_nil, List.getElem?_cons_zero, List.getElem?_cons_succ, List.set_cons_zero, List.set_cons_succ, List.replicate, List.replicate_zero, List.replicate_succ, List.take_length, List.take_succ_cons, Nat.sub_self, setAll, if_true, if_false, Bool.false_eq_true, Nat.reduceAdd, Nat.reduceSub, Nat.reduceLeDiff, Nat.reduceLT, permU, List.filterMap_cons, List.filterMap_nil, wipeE, List.length_map, max_len, e1, e2, l1]
  rw [zip_ints]
  simp only [i_zip3, k_z3, k_z3b, k_z3c, z3_cons, z3_nil, k_enT, k_o1r, e_op1, e_op2, e_comp2, k_o1, k_o2, k_o2b, k_db, k_db2, k_dbT, k_dbI1, k_dbI0, k_db1, k_dbN, k_dbM, d_nil, d_cons, i_enum, i_zip, i_rev, k_enL, k_zi, k_ziL, k_ziT, k_rvL, k_rvT, e_var, k_var, x_aug, k_au, k_me, e_con, e_bin, e_neg, e_not, e_and, e_or, e_cmp, e_cmp2, e_ite, e_call, e_callk, e_blt, e_isi, e_idx, e_sl, e_tup, e_lst, e_comp, e_meth, es_nil, es_cons, if_nil, if_cons, o_none, o_some, i_ex, i_r1, i_r2, g_name, g_sub, g_tup, g_tupL, gs_nil, gs_cons, x_asg, x_par, x_ex, x_ret, x_ifs, x_for, x_whl, x_pass, x_brk, x_cont, xs_nil, xs_cons, k_bin, k_bin2, k_neg, k_not, k_not2, k_and, k_and1, k_and0, k_or, k_or1, k_or0, k_cmp, k_cmp2, k_cmp3, k_c2, k_c2b, k_c2t, k_c2f, k_ite, k_ite1, k_ite0, k_call, k_ck, k_ck2, k_blt, k_isi, k_idx, k_idx2, k_sl, k_sl2, k_sl3, k_tup, k_tup2, k_lst, k_lst2, f_nil, f_cons, f_d, k_fz, k_fz2, k_comp, k_comp2, k_me2, k_es, k_es2, k_if, k_if1, k_if0, k_o, k_iL, k_iT, k_iK, k_r1, k_r2, k_r2b, k_sb, k_sb2, k_sb3, k_ts, k_as, k_as2, k_par, k_aug, k_aug2, k_ex, k_ret1, k_ret0, k_ret2, k_ifs, k_ifs1, k_ifs0, k_for, k_fo, k_foN, k_foC, k_foB, k_foR, k_sqN, k_sqC, k_sqB, k_sqR, k_fin, fin_d, fin_nx, c_nil, c_cons, k_cs, k_cs1, k_cs0, k_cs3, k_cs4, k_cs5, fo_nil, fo_cons, sizeL, evT, rb_ok, rb_no, q_add, q_sub, q_cmp, q_lt, q_le, q_gt, q_ge, q_eqI, q_neI, q_eqS, q_neS, q_isB, q_notB, q_isN, q_notN, q_truB, q_truI, q_truL, q_truT, q_truN, q_ixT, q_ixL, q_ixK, q_der, q_at0, q_at1, q_at2, q_at3, q_mkf, q_mkt, q_ixR, k_ixR, k_ix2, q_stR, k_stR, k_st2, q_slK, q_slL, fin_new, take_set, List.set_set, List.length_set, k_sqD0, ix30, ix31, ix32, b_lenL, b_lenT, b_lenK, b_int, b_intB, b_boolI, b_abs, b_max, b_min, b_tupL, b_tupT, b_gcd, b_listL, b_listT, b_listK, b_all, b_any, b_sum, asBools, asInts, Option.map_some, Option.map_none, isiD, List.map_cons, List.map_nil, List.cons_append, List.nil_append, List.append_nil, List.length_cons, List.length_nil, List.getElem?_cons_zero, List.getElem?_cons_succ, List.set_cons_zero, List.set_cons_succ, List.replicate, List.replicate_zero, List.replicate_succ, List.take_length, List.take_succ_cons, Nat.sub_self, setAll, if_true, if_false, Bool.false_eq_true, Nat.reduceAdd, Nat.reduceSub, Nat.reduceLeDiff, Nat.reduceLT, permU, List.filterMap_cons, List.filterMap_nil, wipeE, c, e3, sumL]
theorem s_added (n : Nat) (xs ys : List Int) (hx : xs.length ≤ 5000) (hy : ys.length ≤ 5000) (tx : trimL xs = xs) (ty : trimL ys = ys) (S : Sto) : call T (n + 4) 12 [.d (.tuple (xs.map PyData.int)), .d (.tuple (ys.map PyData.int))] S = .ok (.d (.tuple ((sumL xs ys).map PyData.int))) S := by
  rw [call_at t_12 ⟨rfl, by decide⟩]
  simp only [c_12, i_zip3, k_z3, k_z3b, k_z3c, z3_cons, z3_nil, k_enT, k_o1r, e_op1, e_op2, e_comp2, k_o1, k_o2, k_o2b, k_db, k_db2, k_dbT, k_dbI1, k_dbI0, k_db1, k_dbN, k_dbM, d_nil, d_cons, i_enum, i_zip, i_rev, k_enL, k_zi, k_ziL, k_ziT, k_rvL, k_rvT, e_var, k_var, x_aug, k_au, k_me, e_con, e_bin, e_neg, e_not, e_and, e_or, e_cmp, e_cmp2, e_ite, e_call, e_callk, e_blt, e_isi, e_idx, e_sl, e_tup, e_lst, e_comp, e_meth, es_nil, es_cons, if_nil, if_cons, o_none, o_some, i_ex, i_r1, i_r2, g_name, g_sub, g_tup, g_tupL, gs_nil, gs_cons, x_asg, x_par, x_ex, x_ret, x_ifs, x_for, x_whl, x_pass, x_brk, x_cont, xs_nil, xs_cons, k_bin, k_bin2, k_neg, k_not, k_not2, k_and, k_and1, k_and0, k_or, k_or1, k_or0, k_cmp, k_cmp2, k_cmp3, k_c2, k_c2b, k_c2t, k_c2f, k_ite, k_ite1, k_ite0, k_call, k_ck, k_ck2, k_blt, k_isi, k_idx, k_idx2, k_sl, k_sl2, k_sl3, k_tup, k_tup2, k_lst, k_lst2, f_nil, f_cons, f_d, k_fz, k_fz2, k_comp, k_comp2, k_me2, k_es, k_es2, k_if, k_if1, k_if0, k_o, k_iL, k_iT, k_iK, k_r1, k_r2, k_r2b, k_sb, k_sb2, k_sb3, k_ts, k_as, k_as2, k_par, k_aug, k_aug2, k_ex, k_ret1, k_ret0, k_ret2, k_ifs, k_ifs1, k_ifs0, k_for, k_fo, k_foN, k_foC, k_foB, k_foR, k_sqN, k_sqC, k_sqB, k_sqR, k_fin, fin_d, fin_nx, c_nil, c_cons, k_cs, k_cs1, k_cs0, k_cs3, k_cs4, k_cs5, fo_nil, fo_cons, sizeL, evT, rb_ok, rb_no, q_add, q_sub, q_cmp, q_lt, q_le, q_gt, q_ge, q_eqI, q_neI, q_eqS, q_neS, q_isB, q_notB, q_isN, q_notN, q_truB, q_truI, q_truL, q_truT, q_truN, q_ixT, q_ixL, q_ixK, q_der, q_at0, q_at1, q_at2, q_at3, q_mkf, q_mkt, q_ixR, k_ixR, k_ix2, q_stR, k_stR, k_st2, q_slK, q_slL, fin_new, take_set, List.set_set, List.length_set, k_sqD0, ix30, ix31, ix32, b_lenL, b_lenT, b_lenK, b_int, b_intB, b_boolI, b_abs, b_max, b_min, b_tupL, b_tupT, b_gcd, b_listL, b_listT, b_listK, b_all, b_any, b_sum, asBools, asInts, Option.map_some, Option.map_none, isiD, List.map_cons, List.map_nil, List.cons_append, List.nil_append, List.append_nil, List.length_cons, List.length_nil, List.getElem?_cons_zero, List.getElem?_cons_succ, List.set_cons_zero, List.set_cons_succ, List.replicate, List.replicate_zero, List.replicate_succ, List.take_length, List.take_succ_cons, Nat.sub_self, setAll, if_true, if_false, Bool.false_eq_true, Nat.reduceAdd, Nat.reduceSub, Nat.reduceLeDiff, Nat.reduceLT, permU, List.filterMap_cons, List.filterMap_nil, wipeE, s_check_polynomial _ _ (show xs.length < 16777216 by omega) tx, s_check_polynomial _ _ (show ys.length < 16777216 by omega) ty, s_summed _ _ _ hx hy]
theorem at_nat (acc : List Int) {i : Nat} (h : i < acc.length) : atI (acc.map PyData.int) (i : Int) = some (.int (acc.getD i 0)) := by
  refine q_atN _ ?_
  rw [List.getElem?_map, List.getElem?_eq_getElem h, List.getD_eq_getElem?_getD, List.getElem?_eq_getElem h]
  rfl
theorem ix_nat {n i : Nat} (h : i < n) : ixN n (i : Int) = some i := by
  unfold ixN
  rw [if_pos (by omega), if_pos (by omega)]
  simp
theorem set_add1 (acc : List Int) (i : Nat) (v : Int) : (acc.map PyData.int).set i (.int (acc.getD i 0 + v)) = (add1 acc i v).map PyData.int := by
  unfold add1
  rw [List.map_set]
theorem i_timed (n : Nat) {j : Nat} (a : Nat) (x : Int) (u0 u1 : Option U) : ∀ (ys acc : List Int) (b : Nat) (S : Sto) (o5 o6 : Option U), S[j]? = some (some (acc.map PyData.int)) → a + b + ys.length ≤ acc.length → (∀ y ∈ ys, mulOk x y = true) →
    ∃ p5 p6, forE (call T n) (.tup (.cons (.name 5) (.cons (.name 6) .nil))) c_10_b0 [] (enF b ys) [u0, u1, some (.r j), some (.d (.int (a : Int))), some (.d (.int x)), o5, o6] S = .ok (.nx [u0, u1, some (.r j), some (.d (.int (a : Int))), some (.d (.int x)), p5, p6]) (S.set j (some ((rowL x acc (a + b) ys).map PyData.int)))
  | [], acc, b, S, o5, o6, hS, _, _ => ⟨o5, o6, by rw [rowL, set_same hS, enF, fo_nil]⟩
  | y :: ys, acc, b, S, o5, o6, hS, hl, hm => by
    have hj : j < S.length := (List.getElem?_eq_some_iff.mp hS).1
    have lt : a + b < acc.length := by simp only [List.length_cons] at hl; omega
    have ix := r_idx (i := ((a + b : Nat) : Int)) hS (at_nat acc lt)
    have ml := hm y List.mem_cons_self
    have cast : (a : Int) + (b : Int) = ((a + b : Nat) : Int) := by omega
    have iq : ixN acc.length ((a + b : Nat) : Int) = some (a + b) := ix_nat lt
    obtain ⟨p5, p6, ih⟩ := i_timed n a x u0 u1 ys (add1 acc (a + b) (x * y)) (b + 1) (S.set j (some ((add1 acc (a + b) (x * y)).map PyData.int))) (some (.d (.int (b : Int)))) (some (.d (.int y))) (get_set S _ hj) (by rw [add1_len]; simp only [List.length_cons] at hl; omega) fun w hw => hm w (List.mem_cons_of_mem _ hw)
    rw [List.set_set, show a + (b + 1) = a + b + 1 by omega] at ih
    refine ⟨p5, p6, ?_⟩
    rw [rowL]
    simp only [enF, fo_cons]
    simp only [c_10_b0, i_zip3, k_z3, k_z3b, k_z3c, z3_cons, z3_nil, k_enT, k_o1r, e_op1, e_op2, e_comp2, k_o1, k_o2, k_o2b, k_db, k_db2, k_dbT, k_dbI1, k_dbI0, k_db1, k_dbN, k_dbM, d_nil, d_cons, i_enum, i_zip, i_rev, k_enL, k_zi, k_ziL, k_ziT, k_rvL, k_rvT, e_var, k_var, x_aug, k_au, k_me, e_con, e_bin, e_neg, e_not, e_and, e_or, e_cmp, e_cmp2, e_ite, e_call, e_callk, e_blt, e_isi, e_idx, e_sl, e_tup, e_lst, e_comp, e_meth, es_nil, es_cons, if_nil, if_cons, o_none, o_some, i_ex, i_r1, i_r2, g_name, g_sub, g_tup, g_tupL, gs_nil, gs_cons, x_asg, x_par, x_ex, x_ret, x_ifs, x_for, x_whl, x_pass, x_brk, x_cont, xs_nil, xs_cons, k_bin, k_bin2, k_neg, k_not, k_not2, k_and, k_and1, k_and0, k_or, k_or1, k_or0, k_cmp, k_cmp2, k_cmp3, k_c2, k_c2b, k_c2t, k_c2f, k_ite, k_ite1, k_ite0, k_call, k_ck, k_ck2, k_blt, k_isi, k_idx, k_idx2, k_sl, k_sl2, k_sl3, k_tup, k_tup2, k_lst, k_lst2, f_nil, f_cons, f_d, k_fz, k_fz2, k_comp, k_comp2, k_me2, k_es, k_es2, k_if, k_if1, k_if0, k_o, k_iL, k_iT, k_iK, k_r1, k_r2, k_r2b, k_sb, k_sb2, k_sb3, k_ts, k_as, k_as2, k_par, k_aug, k_aug2, k_ex, k_ret1, k_ret0, k_ret2, k_ifs, k_ifs1, k_ifs0, k_for, k_fo, k_foN, k_foC, k_foB, k_foR, k_sqN, k_sqC, k_sqB, k_sqR, k_fin, fin_d, fin_nx, c_nil, c_cons, k_cs, k_cs1, k_cs0, k_cs3, k_cs4, k_cs5, fo_nil, fo_cons, sizeL, evT, rb_ok, rb_no, q_add, q_sub, q_cmp, q_lt, q_le, q_gt, q_ge, q_eqI, q_neI, q_eqS, q_neS, q_isB, q_notB, q_isN, q_notN, q_truB, q_truI, q_truL, q_truT, q_truN, q_ixT, q_ixL, q_ixK, q_der, q_at0, q_at1, q_at2, q_at3, q_mkf, q_mkt, q_ixR, k_ixR, k_ix2, q_stR, k_stR, k_st2, q_slK, q_slL, fin_new, take_set, List.set_set, List.length_set, k_sqD0, ix30, ix31, ix32, b_lenL, b_lenT, b_lenK, b_int, b_intB, b_boolI, b_abs, b_max, b_min, b_tupL, b_tupT, b_gcd, b_listL, b_listT, b_listK, b_all, b_any, b_sum, asBools, asInts, Option.map_some, Option.map_none, isiD, List.map_cons, List.map_nil, List.cons_append, List.nil_append, List.append_nil, List.length_cons, List.length_nil, List.getElem?_cons_zero, List.getElem?_cons_succ, List.set_cons_zero, List.set_cons_succ, List.replicate, List.replicate_zero, List.replicate_succ, List.take_length, List.take_succ_cons, Nat.sub_self, setAll, if_true, if_false, Bool.false_eq_true, Nat.reduceAdd, Nat.reduceSub, Nat.reduceLeDiff, Nat.reduceLT, permU, List.filterMap_cons, List.filterMap_nil, wipeE, q_augS, cast, ix, q_mulG _ _ ml, d_add, hS, List.length_map, iq, set_add1]
    exact ih
theorem o_timed (n : Nat) {j : Nat} (ys : List Int) (hy : ys.length ≤ 1000) (u0 : Option U) : ∀ (xs acc : List Int) (a : Nat) (S : Sto) (o3 o4 o5 o6 : Option U), S[j]? = some (some (acc.map PyData.int)) → a + xs.length + ys.length ≤ acc.length → (∀ x ∈ xs, ∀ y ∈ ys, mulOk x y = true) →
    ∃ p3 p4 p5 p6, forE (call T n) (.tup (.cons (.name 3) (.cons (.name 4) .nil))) c_10_b1 [] (enF a xs) [u0, some (.d (.tuple (ys.map PyData.int))), some (.r j), o3, o4, o5, o6] S = .ok (.nx [u0, some (.d (.tuple (ys.map PyData.int))), some (.r j), p3, p4, p5, p6]) (S.set j (some ((mulA ys acc a xs).map PyData.int)))
  | [], acc, a, S, o3, o4, o5, o6, hS, _, _ => ⟨o3, o4, o5, o6, by rw [mulA, set_same hS, enF, fo_nil]⟩
  | x :: xs, acc, a, S, o3, o4, o5, o6, hS, hl, hm => by
    have hj : j < S.length := (List.getElem?_eq_some_iff.mp hS).1
    obtain ⟨q5, q6, e1⟩ := i_timed (T := T) n a x u0 (some (.d (.tuple (ys.map PyData.int)))) ys acc 0 S o5 o6 hS (by simp only [List.length_cons] at hl; omega) (hm x List.mem_cons_self)
    obtain ⟨p3, p4, p5, p6, ih⟩ := o_timed n ys hy u0 xs (rowL x acc a ys) (a + 1) (S.set j (some ((rowL x acc a ys).map PyData.int))) (some (.d (.int (a : Int)))) (some (.d (.int x))) q5 q6 (get_set S _ hj) (by rw [rowL_len]; simp only [List.length_cons] at hl; omega) fun w hw => hm w (List.mem_cons_of_mem _ hw)
    rw [List.set_set] at ih
    refine ⟨p3, p4, p5, p6, ?_⟩
    rw [mulA]
    rw [Nat.add_zero] at e1
    simp only [enF, fo_cons]
    simp only [c_10_b1, g_tup, gs_cons, gs_nil, g_name, k_ts, List.set_cons_zero, List.set_cons_succ, k_fo, xs_cons, x_for, i_enum, e_var, k_var, List.getElem?_cons_zero, List.getElem?_cons_succ, k_enT, enum_ints, k_for, e1, k_sqN, xs_nil, k_foN]
    exact ih
theorem q_zeros (S : Sto) {l : Nat} (h : l ≤ 10000) : binU true .Mult (.d (.list [.int 0])) (.d (.int (l : Int))) S = .ok (.r S.length) (S ++ [some ((List.replicate l (0 : Int)).map PyData.int)]) := by
  have f : ∀ k : Nat, (List.replicate k [PyData.int 0]).flatten = (List.replicate k (0 : Int)).map PyData.int := fun k => by
    induction k with
    | zero => rfl
    | succ k ih => rw [List.replicate_succ, List.flatten_cons, ih, List.replicate_succ, List.map_cons]; rfl
  have c : -(2 ^ 63 : Int) ≤ (l : Int) ∧ (l : Int) < 2 ^ 63 ∧ [PyData.int 0].length * (l : Int).toNat ≤ sizeLine := by
    rw [sizeL, List.length_cons, List.length_nil, Int.toNat_natCast]
    omega
  rw [q_rep, if_pos c, Int.toNat_natCast, f]
  rfl
theorem s_timed (n : Nat) (xs ys : List Int) (hx : xs.length ≤ 1000) (hy : ys.length ≤ 1000) (hm : ∀ x ∈ xs, ∀ y ∈ ys, mulOk x y = true) (S : Sto) : call T (n + 2) 10 [.d (.tuple (xs.map PyData.int)), .d (.tuple (ys.map PyData.int))] S = .ok (.d (.tuple ((mulL xs ys).map PyData.int))) S := by
  have hS : (S ++ [some ((List.replicate (xs.length + ys.length) (0 : Int)).map PyData.int)])[S.length]? = some (some ((List.replicate (xs.length + ys.length) (0 : Int)).map PyData.int)) := by simp
  obtain ⟨p3, p4, p5, p6, e⟩ := o_timed (T := T) (n + 1) ys hy (some (.d (.tuple (xs.map PyData.int)))) xs (List.replicate (xs.length + ys.length) 0) 0 _ none none none none hS (by simp) hm
  have st : ∀ c, (S ++ [some ((List.replicate (xs.length + ys.length) (0 : Int)).map PyData.int)]).set S.length c = S ++ [c] := fun c => by
    rw [List.set_append_right _ _ (Nat.le_refl _), Nat.sub_self]
    rfl
  rw [st] at e
  have gt : (S ++ [some ((mulA ys (List.replicate (xs.length + ys.length) 0) 0 xs).map PyData.int)])[S.length]? = some (some ((mulA ys (List.replicate (xs.length + ys.length) 0) 0 xs).map PyData.int)) := by simp
  have e2 := s_trimmed_own (T := T) n (mulA ys (List.replicate (xs.length + ys.length) 0) 0 xs) gt
  have cast : (xs.length : Int) + (ys.length : Int) = ((xs.length + ys.length : Nat) : Int) := by omega
  have tk : ∀ c : Option (List D), (S ++ [c]).take S.length = S := fun c => by simp
  rw [call_at t_10 ⟨rfl, by decide⟩]
  simp only [c_10, xs_cons, x_asg, e_bin, e_lst, es_cons, es_nil, e_con, k_es, k_es2, k_lst, f_cons, f_nil, f_d, k_fz, k_fz2, k_lst2, List.length_cons, List.length_nil, Nat.reduceAdd, Nat.reduceSub, Nat.reduceLeDiff, sizeL, if_true, q_mkf, k_bin, e_blt, e_var, k_var, List.getElem?_cons_zero, List.getElem?_cons_succ, List.map_cons, List.map_nil, List.cons_append, List.nil_append, List.replicate, k_blt, b_lenT, List.length_map, k_bin2, q_add, cast, q_zeros S (show xs.length + ys.length ≤ 10000 by omega), k_as, k_as2, g_name, List.set_cons_zero, List.set_cons_succ, k_sqN, x_for, i_enum, k_enT, enum_ints, k_for, e, x_ret, e_call, k_call, e2, k_ret1, f_d, k_ret2, k_sqR, k_fin, fin_d, tk, mulL]
theorem s_multiplied (n : Nat) (xs ys : List Int) (hx : xs.length ≤ 1000) (hy : ys.length ≤ 1000) (tx : trimL xs = xs) (ty : trimL ys = ys) (hm : ∀ x ∈ xs, ∀ y ∈ ys, mulOk x y = true) (S : Sto) : call T (n + 4) 13 [.d (.tuple (xs.map PyData.int)), .d (.tuple (ys.map PyData.int))] S = .ok (.d (.tuple ((mulL xs ys).map PyData.int))) S := by
  rw [call_at t_13 ⟨rfl, by decide⟩]
  simp only [c_13, i_zip3, k_z3, k_z3b, k_z3c, z3_cons, z3_nil, k_enT, k_o1r, e_op1, e_op2, e_comp2, k_o1, k_o2, k_o2b, k_db, k_db2, k_dbT, k_dbI1, k_dbI0, k_db1, k_dbN, k_dbM, d_nil, d_cons, i_enum, i_zip, i_rev, k_enL, k_zi, k_ziL, k_ziT, k_rvL, k_rvT, e_var, k_var, x_aug, k_au, k_me, e_con, e_bin, e_neg, e_not, e_and, e_or, e_cmp, e_cmp2, e_ite, e_call, e_callk, e_blt, e_isi, e_idx, e_sl, e_tup, e_lst, e_comp, e_meth, es_nil, es_cons, if_nil, if_cons, o_none, o_some, i_ex, i_r1, i_r2, g_name, g_sub, g_tup, g_tupL, gs_nil, gs_cons, x_asg, x_par, x_ex, x_ret, x_ifs, x_for, x_whl, x_pass, x_brk, x_cont, xs_nil, xs_cons, k_bin, k_bin2, k_neg, k_not, k_not2, k_and, k_and1, k_and0, k_or, k_or1, k_or0, k_cmp, k_cmp2, k_cmp3, k_c2, k_c2b, k_c2t, k_c2f, k_ite, k_ite1, k_ite0, k_call, k_ck, k_ck2, k_blt, k_isi, k_idx, k_idx2, k_sl, k_sl2, k_sl3, k_tup, k_tup2, k_lst, k_lst2, f_nil, f_cons, f_d, k_fz, k_fz2, k_comp, k_comp2, k_me2, k_es, k_es2, k_if, k_if1, k_if0, k_o, k_iL, k_iT, k_iK, k_r1, k_r2, k_r2b, k_sb, k_sb2, k_sb3, k_ts, k_as, k_as2, k_par, k_aug, k_aug2, k_ex, k_ret1, k_ret0, k_ret2, k_ifs, k_ifs1, k_ifs0, k_for, k_fo, k_foN, k_foC, k_foB, k_foR, k_sqN, k_sqC, k_sqB, k_sqR, k_fin, fin_d, fin_nx, c_nil, c_cons, k_cs, k_cs1, k_cs0, k_cs3, k_cs4, k_cs5, fo_nil, fo_cons, sizeL, evT, rb_ok, rb_no, q_add, q_sub, q_cmp, q_lt, q_le, q_gt, q_ge, q_eqI, q_neI, q_eqS, q_neS, q_isB, q_notB, q_isN, q_notN, q_truB, q_truI, q_truL, q_truT, q_truN, q_ixT, q_ixL, q_ixK, q_der, q_at0, q_at1, q_at2, q_at3, q_mkf, q_mkt, q_ixR, k_ixR, k_ix2, q_stR, k_stR, k_st2, q_slK, q_slL, fin_new, take_set, List.set_set, List.length_set, k_sqD0, ix30, ix31, ix32, b_lenL, b_lenT, b_lenK, b_int, b_intB, b_boolI, b_abs, b_max, b_min, b_tupL, b_tupT, b_gcd, b_listL, b_listT, b_listK, b_all, b_any, b_sum, asBools, asInts, Option.map_some, Option.map_none, isiD, List.map_cons, List.map_nil, List.cons_append, List.nil_append, List.append_nil, List.length_cons, List.length_nil, List.getElem?_cons_zero, List.getElem?_cons_succ, List.set_cons_zero, List.set_cons_succ, List.replicate, List.replicate_zero, List.replicate_succ, List.take_length, List.take_succ_cons, Nat.sub_self, setAll, if_true, if_false, Bool.false_eq_true, Nat.reduceAdd, Nat.reduceSub, Nat.reduceLeDiff, Nat.reduceLT, permU, List.filterMap_cons, List.filterMap_nil, wipeE, s_check_polynomial _ _ (show xs.length < 16777216 by omega) tx, s_check_polynomial _ _ (show ys.length < 16777216 by omega) ty, s_timed _ _ _ hx hy hm]

end My

namespace My
open PySem L2 Ev Tb
variable {T : Tab} [Tb T]
theorem f__law_source (n : Nat) (S : Sto) (x y z : Option U) : ∀ (ms : List Int) (mix : Int) (cell : Option U), ∃ mix' cell', forE (call T n) (.name 4) c_15_b0 [] (ms.map PyData.int) [x, y, z, some (.d (.int mix)), cell] S = .ok (.nx [x, y, z, some (.d (.int mix')), cell']) S
  | [], mix, cell => ⟨mix, cell, by simp only [List.map_nil, fo_nil]⟩
  | m :: ms, mix, cell => by
    have m1 : mulOk mix 40014 = true := mulOk_r (by unfold Sm; decide)
    have md : ∀ (i : Int) (S : Sto), binU false .Mod (.d (.int i)) (.d (.int 2147483563)) S = .ok (.d (.int (i.fmod 2147483563))) S := fun i S => q_modG S false (by decide)
    obtain ⟨mix', cell', e⟩ := f__law_source n S x y z ms ((mix * 40014 + m.fmod 2147483563 + 7).fmod 2147483563) (some (.d (.int m)))
    refine ⟨mix', cell', ?_⟩
    simp only [List.map_cons, fo_cons]
    simp only [c_15_b0, i_zip3, k_z3, k_z3b, k_z3c, z3_cons, z3_nil, k_enT, k_o1r, e_op1, e_op2, e_comp2, k_o1, k_o2, k_o2b, k_db, k_db2, k_dbT, k_dbI1, k_dbI0, k_db1, k_dbN, k_dbM, d_nil, d_cons, i_enum, i_zip, i_rev, k_enL, k_zi, k_ziL, k_ziT, k_rvL, k_rvT, e_var, k_var, x_aug, k_au, k_me, e_con, e_bin, e_neg, e_not, e_and, e_or, e_cmp, e_cmp2, e_ite, e_call, e_callk, e_blt, e_isi, e_idx, e_sl, e_tup, e_lst, e_comp, e_meth, es_nil, es_cons, if_nil, if_cons, o_none, o_some, i_ex, i_r1, i_r2, g_name, g_sub, g_tup, g_tupL, gs_nil, gs_cons, x_asg, x_par, x_ex, x_ret, x_ifs, x_for, x_whl, x_pass, x_brk, x_cont, xs_nil, xs_cons, k_bin, k_bin2, k_neg, k_not, k_not2, k_and, k_and1, k_and0, k_or, k_or1, k_or0, k_cmp, k_cmp2, k_cmp3, k_c2, k_c2b, k_c2t, k_c2f, k_ite, k_ite1, k_ite0, k_call, k_ck, k_ck2, k_blt, k_isi, k_idx, k_idx2, k_sl, k_sl2, k_sl3, k_tup, k_tup2, k_lst, k_lst2, f_nil, f_cons, f_d, k_fz, k_fz2, k_comp, k_comp2, k_me2, k_es, k_es2, k_if, k_if1, k_if0, k_o, k_iL, k_iT, k_iK, k_r1, k_r2, k_r2b, k_sb, k_sb2, k_sb3, k_ts, k_as, k_as2, k_par, k_aug, k_aug2, k_ex, k_ret1, k_ret0, k_ret2, k_ifs, k_ifs1, k_ifs0, k_for, k_fo, k_foN, k_foC, k_foB, k_foR, k_sqN, k_sqC, k_sqB, k_sqR, k_fin, fin_d, fin_nx, c_nil, c_cons, k_cs, k_cs1, k_cs0, k_cs3, k_cs4, k_cs5, fo_nil, fo_cons, sizeL, evT, rb_ok, rb_no, q_add, q_sub, q_cmp, q_lt, q_le, q_gt, q_ge, q_eqI, q_neI, q_eqS, q_neS, q_isB, q_notB, q_isN, q_notN, q_truB, q_truI, q_truL, q_truT, q_truN, q_ixT, q_ixL, q_ixK, q_der, q_at0, q_at1, q_at2, q_at3, q_mkf, q_mkt, q_ixR, k_ixR, k_ix2, q_stR, k_stR, k_st2, q_slK, q_slL, fin_new, take_set, List.set_set, List.length_set, k_sqD0, ix30, ix31, ix32, b_lenL, b_lenT, b_lenK, b_int, b_intB, b_boolI, b_abs, b_max, b_min, b_tupL, b_tupT, b_gcd, b_listL, b_listT, b_listK, b_all, b_any, b_sum, asBools, asInts, Option.map_some, Option.map_none, isiD, List.map_cons, List.map_nil, List.cons_append, List.nil_append, List.append_nil, List.length_cons, List.length_nil, List.getElem?_cons_zero, List.getElem?_cons_succ, List.set_cons_zero, List.set_cons_succ, List.replicate, List.replicate_zero, List.replicate_succ, List.take_length, List.take_succ_cons, Nat.sub_self, setAll, if_true, if_false, Bool.false_eq_true, Nat.reduceAdd, Nat.reduceSub, Nat.reduceLeDiff, Nat.reduceLT, permU, List.filterMap_cons, List.filterMap_nil, wipeE, md, q_mulG _ _ m1]
    exact e
theorem s__law_source (n : Nat) (S : Sto) (ns : List Int) (hl : ns.length ≤ 63) (spot : Nat) : ∃ a b c, call T (n + 1) 15 [.k (ns.map PyData.int), .d (.int spot)] S = .ok (.r S.length) (S ++ [some [.int a, .int b, .int c]]) := by
  have m0 : ∀ (i : Int) (S : Sto), binU false .Mult (.d (.int 6007)) (.d (.int i)) S = .ok (.d (.int (6007 * i))) S := fun i S => q_mulG S false (mulOk_l (by unfold Sm; decide))
  have m1 : ∀ (i : Int) (S : Sto), binU false .Mult (.d (.int 89)) (.d (.int i)) S = .ok (.d (.int (89 * i))) S := fun i S => q_mulG S false (mulOk_l (by unfold Sm; decide))
  have m2 : ∀ (i : Int) (S : Sto), binU false .Mult (.d (.int 877)) (.d (.int i)) S = .ok (.d (.int (877 * i))) S := fun i S => q_mulG S false (mulOk_l (by unfold Sm; decide))
  have pw : ∀ S : Sto, binU false .Pow (.d (.int 10)) (.d (.int 18)) S = .ok (.d (.int 1000000000000000000)) S := fun S => by rw [q_pow, if_pos (by decide)]; rfl
  have cat : ∀ v : Int, ns.map PyData.int ++ [PyData.int v] = (ns ++ [v]).map PyData.int := fun v => by simp
  have h1 : ns.length ≤ 16777215 := by omega
  obtain ⟨v, e0⟩ : ∃ v : Int, (if (spot : Int) < (ns.length : Int) then (∃ d, (ns.map PyData.int)[spot]? = some d ∧ d = .int v) else v = 6007 * (spot : Int) + 89 * (ns.length : Int) + 23) := by
    by_cases h : (spot : Int) < (ns.length : Int)
    · obtain ⟨v, hv⟩ : ∃ v, ns[spot]? = some v := ⟨_, List.getElem?_eq_getElem (by omega)⟩
      exact ⟨v, by rw [if_pos h]; exact ⟨_, by rw [List.getElem?_map, hv]; rfl, rfl⟩⟩
    · exact ⟨_, by rw [if_neg h]⟩
  obtain ⟨mix, cell, e⟩ := f__law_source n S (some (.k (ns.map PyData.int))) (some (.d (.int spot))) (some (.d (.int v))) (ns ++ [v]) (4241 + 877 * spot) none
  rw [call_at t_15 ⟨rfl, by decide⟩]
  by_cases h : (spot : Int) < (ns.length : Int)
  · rw [if_pos h] at e0
    obtain ⟨d, hd, rfl⟩ := e0
    by_cases c1 : v < 0
    · apply Exists.intro; apply Exists.intro; apply Exists.intro
      simp only [c_15, i_zip3, k_z3, k_z3b, k_z3c, z3_cons, z3_nil, k_enT, k_o1r, e_op1, e_op2, e_comp2, k_o1, k_o2, k_o2b, k_db, k_db2, k_dbT, k_dbI1, k_dbI0, k_db1, k_dbN, k_dbM, d_nil, d_cons, i_enum, i_zip, i_rev, k_enL, k_zi, k_ziL, k_ziT, k_rvL, k_rvT, e_var, k_var, x_aug, k_au, k_me, e_con, e_bin, e_neg, e_not, e_and, e_or, e_cmp, e_cmp2, e_ite, e_call, e_callk, e_blt, e_isi, e_idx, e_sl, e_tup, e_lst, e_comp, e_meth, es_nil, es_cons, if_nil, if_cons, o_none, o_some, i_ex, i_r1, i_r2, g_name, g_sub, g_tup, g_tupL, gs_nil, gs_cons, x_asg, x_par, x_ex, x_ret, x_ifs, x_for, x_whl, x_pass, x_brk, x_cont, xs_nil, xs_cons, k_bin, k_bin2, k_neg, k_not, k_not2, k_and, k_and1, k_and0, k_or, k_or1, k_or0, k_cmp, k_cmp2, k_cmp3, k_c2, k_c2b, k_c2t, k_c2f, k_ite, k_ite1, k_ite0, k_call, k_ck, k_ck2, k_blt, k_isi, k_idx, k_idx2, k_sl, k_sl2, k_sl3, k_tup, k_tup2, k_lst, k_lst2, f_nil, f_cons, f_d, k_fz, k_fz2, k_comp, k_comp2, k_me2, k_es, k_es2, k_if, k_if1, k_if0, k_o, k_iL, k_iT, k_iK, k_r1, k_r2, k_r2b, k_sb, k_sb2, k_sb3, k_ts, k_as, k_as2, k_par, k_aug, k_aug2, k_ex, k_ret1, k_ret0, k_ret2, k_ifs, k_ifs1, k_ifs0, k_for, k_fo, k_foN, k_foC, k_foB, k_foR, k_sqN, k_sqC, k_sqB, k_sqR, k_fin, fin_d, fin_nx, c_nil, c_cons, k_cs, k_cs1, k_cs0, k_cs3, k_cs4, k_cs5, fo_nil, fo_cons, sizeL, evT, rb_ok, rb_no, q_add, q_sub, q_cmp, q_lt, q_le, q_gt, q_ge, q_eqI, q_neI, q_eqS, q_neS, q_isB, q_notB, q_isN, q_notN, q_truB, q_truI, q_truL, q_truT, q_truN, q_ixT, q_ixL, q_ixK, q_der, q_at0, q_at1, q_at2, q_at3, q_mkf, q_mkt, q_ixR, k_ixR, k_ix2, q_stR, k_stR, k_st2, q_slK, q_slL, fin_new, take_set, List.set_set, List.length_set, k_sqD0, ix30, ix31, ix32, b_lenL, b_lenT, b_lenK, b_int, b_intB, b_boolI, b_abs, b_max, b_min, b_tupL, b_tupT, b_gcd, b_listL, b_listT, b_listK, b_all, b_any, b_sum, asBools, asInts, Option.map_some, Option.map_none, isiD, List.map_cons, List.map_nil, List.cons_append, List.nil_append, List.append_nil, List.length_cons, List.length_nil, List.getElem?_cons_zero, List.getElem?_cons_succ, List.set_cons_zero, List.set_cons_succ, List.replicate, List.replicate_zero, List.replicate_succ, List.take_length, List.take_succ_cons, Nat.sub_self, setAll, if_true, if_false, Bool.false_eq_true, Nat.reduceAdd, Nat.reduceSub, Nat.reduceLeDiff, Nat.reduceLT, permU, List.filterMap_cons, List.filterMap_nil, wipeE, m0, m1, m2, pw, List.length_map, h, decide_true, q_atN _ hd, q_cat, h1, cat, e, c1]
      rfl
    · by_cases c2 : 1000000000000000000 ≤ v
      · apply Exists.intro; apply Exists.intro; apply Exists.intro
        simp only [c_15, i_zip3, k_z3, k_z3b, k_z3c, z3_cons, z3_nil, k_enT, k_o1r, e_op1, e_op2, e_comp2, k_o1, k_o2, k_o2b, k_db, k_db2, k_dbT, k_dbI1, k_dbI0, k_db1, k_dbN, k_dbM, d_nil, d_cons, i_enum, i_zip, i_rev, k_enL, k_zi, k_ziL, k_ziT, k_rvL, k_rvT, e_var, k_var, x_aug, k_au, k_me, e_con, e_bin, e_neg, e_not, e_and, e_or, e_cmp, e_cmp2, e_ite, e_call, e_callk, e_blt, e_isi, e_idx, e_sl, e_tup, e_lst, e_comp, e_meth, es_nil, es_cons, if_nil, if_cons, o_none, o_some, i_ex, i_r1, i_r2, g_name, g_sub, g_tup, g_tupL, gs_nil, gs_cons, x_asg, x_par, x_ex, x_ret, x_ifs, x_for, x_whl, x_pass, x_brk, x_cont, xs_nil, xs_cons, k_bin, k_bin2, k_neg, k_not, k_not2, k_and, k_and1, k_and0, k_or, k_or1, k_or0, k_cmp, k_cmp2, k_cmp3, k_c2, k_c2b, k_c2t, k_c2f, k_ite, k_ite1, k_ite0, k_call, k_ck, k_ck2, k_blt, k_isi, k_idx, k_idx2, k_sl, k_sl2, k_sl3, k_tup, k_tup2, k_lst, k_lst2, f_nil, f_cons, f_d, k_fz, k_fz2, k_comp, k_comp2, k_me2, k_es, k_es2, k_if, k_if1, k_if0, k_o, k_iL, k_iT, k_iK, k_r1, k_r2, k_r2b, k_sb, k_sb2, k_sb3, k_ts, k_as, k_as2, k_par, k_aug, k_aug2, k_ex, k_ret1, k_ret0, k_ret2, k_ifs, k_ifs1, k_ifs0, k_for, k_fo, k_foN, k_foC, k_foB, k_foR, k_sqN, k_sqC, k_sqB, k_sqR, k_fin, fin_d, fin_nx, c_nil, c_cons, k_cs, k_cs1, k_cs0, k_cs3, k_cs4, k_cs5, fo_nil, fo_cons, sizeL, evT, rb_ok, rb_no, q_add, q_sub, q_cmp, q_lt, q_le, q_gt, q_ge, q_eqI, q_neI, q_eqS, q_neS, q_isB, q_notB, q_isN, q_notN, q_truB, q_truI, q_truL, q_truT, q_truN, q_ixT, q_ixL, q_ixK, q_der, q_at0, q_at1, q_at2, q_at3, q_mkf, q_mkt, q_ixR, k_ixR, k_ix2, q_stR, k_stR, k_st2, q_slK, q_slL, fin_new, take_set, List.set_set, List.length_set, k_sqD0, ix30, ix31, ix32, b_lenL, b_lenT, b_lenK, b_int, b_intB, b_boolI, b_abs, b_max, b_min, b_tupL, b_tupT, b_gcd, b_listL, b_listT, b_listK, b_all, b_any, b_sum, asBools, asInts, Option.map_some, Option.map_none, isiD, List.map_cons, List.map_nil, List.cons_append, List.nil_append, List.append_nil, List.length_cons, List.length_nil, List.getElem?_cons_zero, List.getElem?_cons_succ, List.set_cons_zero, List.set_cons_succ, List.replicate, List.replicate_zero, List.replicate_succ, List.take_length, List.take_succ_cons, Nat.sub_self, setAll, if_true, if_false, Bool.false_eq_true, Nat.reduceAdd, Nat.reduceSub, Nat.reduceLeDiff, Nat.reduceLT, permU, List.filterMap_cons, List.filterMap_nil, wipeE, m0, m1, m2, pw, List.length_map, h, decide_true, decide_false, q_atN _ hd, q_cat, h1, cat, e, c1, c2]
        rfl
      · apply Exists.intro; apply Exists.intro; apply Exists.intro
        simp only [c_15, i_zip3, k_z3, k_z3b, k_z3c, z3_cons, z3_nil, k_enT, k_o1r, e_op1, e_op2, e_comp2, k_o1, k_o2, k_o2b, k_db, k_db2, k_dbT, k_dbI1, k_dbI0, k_db1, k_dbN, k_dbM, d_nil, d_cons, i_enum, i_zip, i_rev, k_enL, k_zi, k_ziL, k_ziT, k_rvL, k_rvT, e_var, k_var, x_aug, k_au, k_me, e_con, e_bin, e_neg, e_not, e_and, e_or, e_cmp, e_cmp2, e_ite, e_call, e_callk, e_blt, e_isi, e_idx, e_sl, e_tup, e_lst, e_comp, e_meth, es_nil, es_cons, if_nil, if_cons, o_none, o_some, i_ex, i_r1, i_r2, g_name, g_sub, g_tup, g_tupL, gs_nil, gs_cons, x_asg, x_par, x_ex, x_ret, x_ifs, x_for, x_whl, x_pass, x_brk, x_cont, xs_nil, xs_cons, k_bin, k_bin2, k_neg, k_not, k_not2, k_and, k_and1, k_and0, k_or, k_or1, k_or0, k_cmp, k_cmp2, k_cmp3, k_c2, k_c2b, k_c2t, k_c2f, k_ite, k_ite1, k_ite0, k_call, k_ck, k_ck2, k_blt, k_isi, k_idx, k_idx2, k_sl, k_sl2, k_sl3, k_tup, k_tup2, k_lst, k_lst2, f_nil, f_cons, f_d, k_fz, k_fz2, k_comp, k_comp2, k_me2, k_es, k_es2, k_if, k_if1, k_if0, k_o, k_iL, k_iT, k_iK, k_r1, k_r2, k_r2b, k_sb, k_sb2, k_sb3, k_ts, k_as, k_as2, k_par, k_aug, k_aug2, k_ex, k_ret1, k_ret0, k_ret2, k_ifs, k_ifs1, k_ifs0, k_for, k_fo, k_foN, k_foC, k_foB, k_foR, k_sqN, k_sqC, k_sqB, k_sqR, k_fin, fin_d, fin_nx, c_nil, c_cons, k_cs, k_cs1, k_cs0, k_cs3, k_cs4, k_cs5, fo_nil, fo_cons, sizeL, evT, rb_ok, rb_no, q_add, q_sub, q_cmp, q_lt, q_le, q_gt, q_ge, q_eqI, q_neI, q_eqS, q_neS, q_isB, q_notB, q_isN, q_notN, q_truB, q_truI, q_truL, q_truT, q_truN, q_ixT, q_ixL, q_ixK, q_der, q_at0, q_at1, q_at2, q_at3, q_mkf, q_mkt, q_ixR, k_ixR, k_ix2, q_stR, k_stR, k_st2, q_slK, q_slL, fin_new, take_set, List.set_set, List.length_set, k_sqD0, ix30, ix31, ix32, b_lenL, b_lenT, b_lenK, b_int, b_intB, b_boolI, b_abs, b_max, b_min, b_tupL, b_tupT, b_gcd, b_listL, b_listT, b_listK, b_all, b_any, b_sum, asBools, asInts, Option.map_some, Option.map_none, isiD, List.map_cons, List.map_nil, List.cons_append, List.nil_append, List.append_nil, List.length_cons, List.length_nil, List.getElem?_cons_zero, List.getElem?_cons_succ, List.set_cons_zero, List.set_cons_succ, List.replicate, List.replicate_zero, List.replicate_succ, List.take_length, List.take_succ_cons, Nat.sub_self, setAll, if_true, if_false, Bool.false_eq_true, Nat.reduceAdd, Nat.reduceSub, Nat.reduceLeDiff, Nat.reduceLT, permU, List.filterMap_cons, List.filterMap_nil, wipeE, m0, m1, m2, pw, List.length_map, h, decide_true, decide_false, q_atN _ hd, q_cat, h1, cat, e, c1, c2]
        rfl
  · rw [if_neg h] at e0
    subst e0
    by_cases c1 : 6007 * (spot : Int) + 89 * (ns.length : Int) + 23 < 0
    · apply Exists.intro; apply Exists.intro; apply Exists.intro
      simp only [c_15, i_zip3, k_z3, k_z3b, k_z3c, z3_cons, z3_nil, k_enT, k_o1r, e_op1, e_op2, e_comp2, k_o1, k_o2, k_o2b, k_db, k_db2, k_dbT, k_dbI1, k_dbI0, k_db1, k_dbN, k_dbM, d_nil, d_cons, i_enum, i_zip, i_rev, k_enL, k_zi, k_ziL, k_ziT, k_rvL, k_rvT, e_var, k_var, x_aug, k_au, k_me, e_con, e_bin, e_neg, e_not, e_and, e_or, e_cmp, e_cmp2, e_ite, e_call, e_callk, e_blt, e_isi, e_idx, e_sl, e_tup, e_lst, e_comp, e_meth, es_nil, es_cons, if_nil, if_cons, o_none, o_some, i_ex, i_r1, i_r2, g_name, g_sub, g_tup, g_tupL, gs_nil, gs_cons, x_asg, x_par, x_ex, x_ret, x_ifs, x_for, x_whl, x_pass, x_brk, x_cont, xs_nil, xs_cons, k_bin, k_bin2, k_neg, k_not, k_not2, k_and, k_and1, k_and0, k_or, k_or1, k_or0, k_cmp, k_cmp2, k_cmp3, k_c2, k_c2b, k_c2t, k_c2f, k_ite, k_ite1, k_ite0, k_call, k_ck, k_ck2, k_blt, k_isi, k_idx, k_idx2, k_sl, k_sl2, k_sl3, k_tup, k_tup2, k_lst, k_lst2, f_nil, f_cons, f_d, k_fz, k_fz2, k_comp, k_comp2, k_me2, k_es, k_es2, k_if, k_if1, k_if0, k_o, k_iL, k_iT, k_iK, k_r1, k_r2, k_r2b, k_sb, k_sb2, k_sb3, k_ts, k_as, k_as2, k_par, k_aug, k_aug2, k_ex, k_ret1, k_ret0, k_ret2, k_ifs, k_ifs1, k_ifs0, k_for, k_fo, k_foN, k_foC, k_foB, k_foR, k_sqN, k_sqC, k_sqB, k_sqR, k_fin, fin_d, fin_nx, c_nil, c_cons, k_cs, k_cs1, k_cs0, k_cs3, k_cs4, k_cs5, fo_nil, fo_cons, sizeL, evT, rb_ok, rb_no, q_add, q_sub, q_cmp, q_lt, q_le, q_gt, q_ge, q_eqI, q_neI, q_eqS, q_neS, q_isB, q_notB, q_isN, q_notN, q_truB, q_truI, q_truL, q_truT, q_truN, q_ixT, q_ixL, q_ixK, q_der, q_at0, q_at1, q_at2, q_at3, q_mkf, q_mkt, q_ixR, k_ixR, k_ix2, q_stR, k_stR, k_st2, q_slK, q_slL, fin_new, take_set, List.set_set, List.length_set, k_sqD0, ix30, ix31, ix32, b_lenL, b_lenT, b_lenK, b_int, b_intB, b_boolI, b_abs, b_max, b_min, b_tupL, b_tupT, b_gcd, b_listL, b_listT, b_listK, b_all, b_any, b_sum, asBools, asInts, Option.map_some, Option.map_none, isiD, List.map_cons, List.map_nil, List.cons_append, List.nil_append, List.append_nil, List.length_cons, List.length_nil, List.getElem?_cons_zero, List.getElem?_cons_succ, List.set_cons_zero, List.set_cons_succ, List.replicate, List.replicate_zero, List.replicate_succ, List.take_length, List.take_succ_cons, Nat.sub_self, setAll, if_true, if_false, Bool.false_eq_true, Nat.reduceAdd, Nat.reduceSub, Nat.reduceLeDiff, Nat.reduceLT, permU, List.filterMap_cons, List.filterMap_nil, wipeE, m0, m1, m2, pw, List.length_map, h, decide_true, decide_false, q_cat, h1, cat, e, c1]
      rfl
    · by_cases c2 : 1000000000000000000 ≤ 6007 * (spot : Int) + 89 * (ns.length : Int) + 23
      · apply Exists.intro; apply Exists.intro; apply Exists.intro
        simp only [c_15, i_zip3, k_z3, k_z3b, k_z3c, z3_cons, z3_nil, k_enT, k_o1r, e_op1, e_op2, e_comp2, k_o1, k_o2, k_o2b, k_db, k_db2, k_dbT, k_dbI1, k_dbI0, k_db1, k_dbN, k_dbM, d_nil, d_cons, i_enum, i_zip, i_rev, k_enL, k_zi, k_ziL, k_ziT, k_rvL, k_rvT, e_var, k_var, x_aug, k_au, k_me, e_con, e_bin, e_neg, e_not, e_and, e_or, e_cmp, e_cmp2, e_ite, e_call, e_callk, e_blt, e_isi, e_idx, e_sl, e_tup, e_lst, e_comp, e_meth, es_nil, es_cons, if_nil, if_cons, o_none, o_some, i_ex, i_r1, i_r2, g_name, g_sub, g_tup, g_tupL, gs_nil, gs_cons, x_asg, x_par, x_ex, x_ret, x_ifs, x_for, x_whl, x_pass, x_brk, x_cont, xs_nil, xs_cons, k_bin, k_bin2, k_neg, k_not, k_not2, k_and, k_and1, k_and0, k_or, k_or1, k_or0, k_cmp, k_cmp2, k_cmp3, k_c2, k_c2b, k_c2t, k_c2f, k_ite, k_ite1, k_ite0, k_call, k_ck, k_ck2, k_blt, k_isi, k_idx, k_idx2, k_sl, k_sl2, k_sl3, k_tup, k_tup2, k_lst, k_lst2, f_nil, f_cons, f_d, k_fz, k_fz2, k_comp, k_comp2, k_me2, k_es, k_es2, k_if, k_if1, k_if0, k_o, k_iL, k_iT, k_iK, k_r1, k_r2, k_r2b, k_sb, k_sb2, k_sb3, k_ts, k_as, k_as2, k_par, k_aug, k_aug2, k_ex, k_ret1, k_ret0, k_ret2, k_ifs, k_ifs1, k_ifs0, k_for, k_fo, k_foN, k_foC, k_foB, k_foR, k_sqN, k_sqC, k_sqB, k_sqR, k_fin, fin_d, fin_nx, c_nil, c_cons, k_cs, k_cs1, k_cs0, k_cs3, k_cs4, k_cs5, fo_nil, fo_cons, sizeL, evT, rb_ok, rb_no, q_add, q_sub, q_cmp, q_lt, q_le, q_gt, q_ge, q_eqI, q_neI, q_eqS, q_neS, q_isB, q_notB, q_isN, q_notN, q_truB, q_truI, q_truL, q_truT, q_truN, q_ixT, q_ixL, q_ixK, q_der, q_at0, q_at1, q_at2, q_at3, q_mkf, q_mkt, q_ixR, k_ixR, k_ix2, q_stR, k_stR, k_st2, q_slK, q_slL, fin_new, take_set, List.set_set, List.length_set, k_sqD0, ix30, ix31, ix32, b_lenL, b_lenT, b_lenK, b_int, b_intB, b_boolI, b_abs, b_max, b_min, b_tupL, b_tupT, b_gcd, b_listL, b_listT, b_listK, b_all, b_any, b_sum, asBools, asInts, Option.map_some, Option.map_none, isiD, List.map_cons, List.map_nil, List.cons_append, List.nil_append, List.append_nil, List.length_cons, List.length_nil, List.getElem?_cons_zero, List.getElem?_cons_succ, List.set_cons_zero, List.set_cons_succ, List.replicate, List.replicate_zero, List.replicate_succ, List.take_length, List.take_succ_cons, Nat.sub_self, setAll, if_true, if_false, Bool.false_eq_true, Nat.reduceAdd, Nat.reduceSub, Nat.reduceLeDiff, Nat.reduceLT, permU, List.filterMap_cons, List.filterMap_nil, wipeE, m0, m1, m2, pw, List.length_map, h, decide_true, decide_false, q_cat, h1, cat, e, c1, c2]
        rfl
      · apply Exists.intro; apply Exists.intro; apply Exists.intro
        simp only [c_15, i_zip3, k_z3, k_z3b, k_z3c, z3_cons, z3_nil, k_enT, k_o1r, e_op1, e_op2, e_comp2, k_o1, k_o2, k_o2b, k_db, k_db2, k_dbT, k_dbI1, k_dbI0, k_db1, k_dbN, k_dbM, d_nil, d_cons, i_enum, i_zip, i_rev, k_enL, k_zi, k_ziL, k_ziT, k_rvL, k_rvT, e_var, k_var, x_aug, k_au, k_me, e_con, e_bin, e_neg, e_not, e_and, e_or, e_cmp, e_cmp2, e_ite, e_call, e_callk, e_blt, e_isi, e_idx, e_sl, e_tup, e_lst, e_comp, e_meth, es_nil, es_cons, if_nil, if_cons, o_none, o_some, i_ex, i_r1, i_r2, g_name, g_sub, g_tup, g_tupL, gs_nil, gs_cons, x_asg, x_par, x_ex, x_ret, x_ifs, x_for, x_whl, x_pass, x_brk, x_cont, xs_nil, xs_cons, k_bin, k_bin2, k_neg, k_not, k_not2, k_and, k_and1, k_and0, k_or, k_or1, k_or0, k_cmp, k_cmp2, k_cmp3, k_c2, k_c2b, k_c2t, k_c2f, k_ite, k_ite1, k_ite0, k_call, k_ck, k_ck2, k_blt, k_isi, k_idx, k_idx2, k_sl, k_sl2, k_sl3, k_tup, k_tup2, k_lst, k_lst2, f_nil, f_cons, f_d, k_fz, k_fz2, k_comp, k_comp2, k_me2, k_es, k_es2, k_if, k_if1, k_if0, k_o, k_iL, k_iT, k_iK, k_r1, k_r2, k_r2b, k_sb, k_sb2, k_sb3, k_ts, k_as, k_as2, k_par, k_aug, k_aug2, k_ex, k_ret1, k_ret0, k_ret2, k_ifs, k_ifs1, k_ifs0, k_for, k_fo, k_foN, k_foC, k_foB, k_foR, k_sqN, k_sqC, k_sqB, k_sqR, k_fin, fin_d, fin_nx, c_nil, c_cons, k_cs, k_cs1, k_cs0, k_cs3, k_cs4, k_cs5, fo_nil, fo_cons, sizeL, evT, rb_ok, rb_no, q_add, q_sub, q_cmp, q_lt, q_le, q_gt, q_ge, q_eqI, q_neI, q_eqS, q_neS, q_isB, q_notB, q_isN, q_notN, q_truB, q_truI, q_truL, q_truT, q_truN, q_ixT, q_ixL, q_ixK, q_der, q_at0, q_at1, q_at2, q_at3, q_mkf, q_mkt, q_ixR, k_ixR, k_ix2, q_stR, k_stR, k_st2, q_slK, q_slL, fin_new, take_set, List.set_set, List.length_set, k_sqD0, ix30, ix31, ix32, b_lenL, b_lenT, b_lenK, b_int, b_intB, b_boolI, b_abs, b_max, b_min, b_tupL, b_tupT, b_gcd, b_listL, b_listT, b_listK, b_all, b_any, b_sum, asBools, asInts, Option.map_some, Option.map_none, isiD, List.map_cons, List.map_nil, List.cons_append, List.nil_append, List.append_nil, List.length_cons, List.length_nil, List.getElem?_cons_zero, List.getElem?_cons_succ, List.set_cons_zero, List.set_cons_succ, List.replicate, List.replicate_zero, List.replicate_succ, List.take_length, List.take_succ_cons, Nat.sub_self, setAll, if_true, if_false, Bool.false_eq_true, Nat.reduceAdd, Nat.reduceSub, Nat.reduceLeDiff, Nat.reduceLT, permU, List.filterMap_cons, List.filterMap_nil, wipeE, m0, m1, m2, pw, List.length_map, h, decide_true, decide_false, q_cat, h1, cat, e, c1, c2]
        rfl
theorem gw (S : Sto) {j : Nat} (hj : j < S.length) (a b c : Int) : (S.set j (some [.int a, .int b, .int c]))[j]? = some (some [.int a, .int b, .int c]) := get_set S _ hj
theorem s__law_take (n : Nat) {S : Sto} {j : Nat} {a b c : Int} (m : Int) (hS : S[j]? = some (some [.int a, .int b, .int c])) (hm : 0 < m) (hs : Sm 8000 m) :
    ∃ r a' b' c', 0 ≤ r ∧ r < m ∧ call T (n + 1) 16 [.r j, .d (.int m)] S = .ok (.d (.int r)) (S.set j (some [.int a', .int b', .int c'])) := by
  have hj : j < S.length := (List.getElem?_eq_some_iff.mp hS).1
  have hl : m.natAbs.log2 < 9000 := hs.log (by decide) (by decide)
  have hm0 : m ≠ 0 := by omega
  rw [call_at t_16 ⟨rfl, by decide⟩]
  by_cases h : 0 < a
  · refine ⟨a.fmod m, a.fdiv m, b, c, Int.fmod_nonneg_of_pos _ hm, Int.fmod_lt_of_pos _ hm, ?_⟩
    simp only [c_16, i_zip3, k_z3, k_z3b, k_z3c, z3_cons, z3_nil, k_enT, k_o1r, e_op1, e_op2, e_comp2, k_o1, k_o2, k_o2b, k_db, k_db2, k_dbT, k_dbI1, k_dbI0, k_db1, k_dbN, k_dbM, d_nil, d_cons, i_enum, i_zip, i_rev, k_enL, k_zi, k_ziL, k_ziT, k_rvL, k_rvT, e_var, k_var, x_aug, k_au, k_me, e_con, e_bin, e_neg, e_not, e_and, e_or, e_cmp, e_cmp2, e_ite, e_call, e_callk, e_blt, e_isi, e_idx, e_sl, e_tup, e_lst, e_comp, e_meth, es_nil, es_cons, if_nil, if_cons, o_none, o_some, i_ex, i_r1, i_r2, g_name, g_sub, g_tup, g_tupL, gs_nil, gs_cons, x_asg, x_par, x_ex, x_ret, x_ifs, x_for, x_whl, x_pass, x_brk, x_cont, xs_nil, xs_cons, k_bin, k_bin2, k_neg, k_not, k_not2, k_and, k_and1, k_and0, k_or, k_or1, k_or0, k_cmp, k_cmp2, k_cmp3, k_c2, k_c2b, k_c2t, k_c2f, k_ite, k_ite1, k_ite0, k_call, k_ck, k_ck2, k_blt, k_isi, k_idx, k_idx2, k_sl, k_sl2, k_sl3, k_tup, k_tup2, k_lst, k_lst2, f_nil, f_cons, f_d, k_fz, k_fz2, k_comp, k_comp2, k_me2, k_es, k_es2, k_if, k_if1, k_if0, k_o, k_iL, k_iT, k_iK, k_r1, k_r2, k_r2b, k_sb, k_sb2, k_sb3, k_ts, k_as, k_as2, k_par, k_aug, k_aug2, k_ex, k_ret1, k_ret0, k_ret2, k_ifs, k_ifs1, k_ifs0, k_for, k_fo, k_foN, k_foC, k_foB, k_foR, k_sqN, k_sqC, k_sqB, k_sqR, k_fin, fin_d, fin_nx, c_nil, c_cons, k_cs, k_cs1, k_cs0, k_cs3, k_cs4, k_cs5, fo_nil, fo_cons, sizeL, evT, rb_ok, rb_no, q_add, q_sub, q_cmp, q_lt, q_le, q_gt, q_ge, q_eqI, q_neI, q_eqS, q_neS, q_isB, q_notB, q_isN, q_notN, q_truB, q_truI, q_truL, q_truT, q_truN, q_ixT, q_ixL, q_ixK, q_der, q_at0, q_at1, q_at2, q_at3, q_mkf, q_mkt, q_ixR, k_ixR, k_ix2, q_stR, k_stR, k_st2, q_slK, q_slL, fin_new, take_set, List.set_set, List.length_set, k_sqD0, ix30, ix31, ix32, b_lenL, b_lenT, b_lenK, b_int, b_intB, b_boolI, b_abs, b_max, b_min, b_tupL, b_tupT, b_gcd, b_listL, b_listT, b_listK, b_all, b_any, b_sum, asBools, asInts, Option.map_some, Option.map_none, isiD, List.map_cons, List.map_nil, List.cons_append, List.nil_append, List.append_nil, List.length_cons, List.length_nil, List.getElem?_cons_zero, List.getElem?_cons_succ, List.set_cons_zero, List.set_cons_succ, List.replicate, List.replicate_zero, List.replicate_succ, List.take_length, List.take_succ_cons, Nat.sub_self, setAll, if_true, if_false, Bool.false_eq_true, Nat.reduceAdd, Nat.reduceSub, Nat.reduceLeDiff, Nat.reduceLT, permU, List.filterMap_cons, List.filterMap_nil, wipeE, hS, h, decide_true, q_modG _ _ hm0, q_fdivG _ _ hm0 hl, get_set _ _ hj]
  · have d97 : ∀ (i : Int) (S : Sto), binU false .FloorDiv (.d (.int i)) (.d (.int 97)) S = .ok (.d (.int (i.fdiv 97))) S := fun i S => q_fdivG S false (by decide) (by decide)
    have md : ∀ (i k : Int) (S : Sto), k ≠ 0 → binU false .Mod (.d (.int i)) (.d (.int k)) S = .ok (.d (.int (i.fmod k))) S := fun i k S h => q_modG S false h
    have w : ∀ x : Int, mulOk x 40692 = true := fun x => mulOk_r (by unfold Sm; decide)
    have w2 : ∀ x : Int, mulOk 52774 x = true := fun x => mulOk_l (by unfold Sm; decide)
    refine ⟨(((b * 40692 + 52774 * (c + 1) + 19).fmod 2147483399).fdiv 97).fmod m, a, (b * 40692 + 52774 * (c + 1) + 19).fmod 2147483399, c + 1, Int.fmod_nonneg_of_pos _ hm, Int.fmod_lt_of_pos _ hm, ?_⟩
    simp only [c_16, i_zip3, k_z3, k_z3b, k_z3c, z3_cons, z3_nil, k_enT, k_o1r, e_op1, e_op2, e_comp2, k_o1, k_o2, k_o2b, k_db, k_db2, k_dbT, k_dbI1, k_dbI0, k_db1, k_dbN, k_dbM, d_nil, d_cons, i_enum, i_zip, i_rev, k_enL, k_zi, k_ziL, k_ziT, k_rvL, k_rvT, e_var, k_var, x_aug, k_au, k_me, e_con, e_bin, e_neg, e_not, e_and, e_or, e_cmp, e_cmp2, e_ite, e_call, e_callk, e_blt, e_isi, e_idx, e_sl, e_tup, e_lst, e_comp, e_meth, es_nil, es_cons, if_nil, if_cons, o_none, o_some, i_ex, i_r1, i_r2, g_name, g_sub, g_tup, g_tupL, gs_nil, gs_cons, x_asg, x_par, x_ex, x_ret, x_ifs, x_for, x_whl, x_pass, x_brk, x_cont, xs_nil, xs_cons, k_bin, k_bin2, k_neg, k_not, k_not2, k_and, k_and1, k_and0, k_or, k_or1, k_or0, k_cmp, k_cmp2, k_cmp3, k_c2, k_c2b, k_c2t, k_c2f, k_ite, k_ite1, k_ite0, k_call, k_ck, k_ck2, k_blt, k_isi, k_idx, k_idx2, k_sl, k_sl2, k_sl3, k_tup, k_tup2, k_lst, k_lst2, f_nil, f_cons, f_d, k_fz, k_fz2, k_comp, k_comp2, k_me2, k_es, k_es2, k_if, k_if1, k_if0, k_o, k_iL, k_iT, k_iK, k_r1, k_r2, k_r2b, k_sb, k_sb2, k_sb3, k_ts, k_as, k_as2, k_par, k_aug, k_aug2, k_ex, k_ret1, k_ret0, k_ret2, k_ifs, k_ifs1, k_ifs0, k_for, k_fo, k_foN, k_foC, k_foB, k_foR, k_sqN, k_sqC, k_sqB, k_sqR, k_fin, fin_d, fin_nx, c_nil, c_cons, k_cs, k_cs1, k_cs0, k_cs3, k_cs4, k_cs5, fo_nil, fo_cons, sizeL, evT, rb_ok, rb_no, q_add, q_sub, q_cmp, q_lt, q_le, q_gt, q_ge, q_eqI, q_neI, q_eqS, q_neS, q_isB, q_notB, q_isN, q_notN, q_truB, q_truI, q_truL, q_truT, q_truN, q_ixT, q_ixL, q_ixK, q_der, q_at0, q_at1, q_at2, q_at3, q_mkf, q_mkt, q_ixR, k_ixR, k_ix2, q_stR, k_stR, k_st2, q_slK, q_slL, fin_new, take_set, List.set_set, List.length_set, k_sqD0, ix30, ix31, ix32, b_lenL, b_lenT, b_lenK, b_int, b_intB, b_boolI, b_abs, b_max, b_min, b_tupL, b_tupT, b_gcd, b_listL, b_listT, b_listK, b_all, b_any, b_sum, asBools, asInts, Option.map_some, Option.map_none, isiD, List.map_cons, List.map_nil, List.cons_append, List.nil_append, List.append_nil, List.length_cons, List.length_nil, List.getElem?_cons_zero, List.getElem?_cons_succ, List.set_cons_zero, List.set_cons_succ, List.replicate, List.replicate_zero, List.replicate_succ, List.take_length, List.take_succ_cons, Nat.sub_self, setAll, if_true, if_false, Bool.false_eq_true, Nat.reduceAdd, Nat.reduceSub, Nat.reduceLeDiff, Nat.reduceLT, permU, List.filterMap_cons, List.filterMap_nil, wipeE, hS, h, decide_false, get_set _ _ hj, q_mulG _ _ (w _), q_mulG _ _ (w2 _), d97, md _ m _ hm0, md _ 2147483399 _ (by decide)]
theorem s__law_some (n : Nat) {S : Sto} {j : Nat} {a b c : Int} (xs : List D) (hS : S[j]? = some (some [.int a, .int b, .int c])) (h0 : 0 < xs.length) (hs : xs.length < 1000000) :
    ∃ (r : Nat) (d : D) (a' b' c' : Int), xs[r]? = some d ∧ call T (n + 2) 17 [.r j, .d (.list xs)] S = .ok (.d d) (S.set j (some [.int a', .int b', .int c'])) := by
  obtain ⟨r, a1, b1, c1, h1, h2, e⟩ := s__law_take (T := T) n xs.length hS (by omega) (Sm.mono (b := 64) (by unfold Sm; omega) (by decide))
  obtain ⟨k, rfl⟩ : ∃ k : Nat, r = k := ⟨r.toNat, by omega⟩
  obtain ⟨d, hd⟩ : ∃ d, xs[k]? = some d := ⟨_, List.getElem?_eq_getElem (by omega)⟩
  refine ⟨k, d, a1, b1, c1, hd, ?_⟩
  rw [call_at t_17 ⟨rfl, by decide⟩]
  simp only [c_17, i_zip3, k_z3, k_z3b, k_z3c, z3_cons, z3_nil, k_enT, k_o1r, e_op1, e_op2, e_comp2, k_o1, k_o2, k_o2b, k_db, k_db2, k_dbT, k_dbI1, k_dbI0, k_db1, k_dbN, k_dbM, d_nil, d_cons, i_enum, i_zip, i_rev, k_enL, k_zi, k_ziL, k_ziT, k_rvL, k_rvT, e_var, k_var, x_aug, k_au, k_me, e_con, e_bin, e_neg, e_not, e_and, e_or, e_cmp, e_cmp2, e_ite, e_call, e_callk, e_blt, e_isi, e_idx, e_sl, e_tup, e_lst, e_comp, e_meth, es_nil, es_cons, if_nil, if_cons, o_none, o_some, i_ex, i_r1, i_r2, g_name, g_sub, g_tup, g_tupL, gs_nil, gs_cons, x_asg, x_par, x_ex, x_ret, x_ifs, x_for, x_whl, x_pass, x_brk, x_cont, xs_nil, xs_cons, k_bin, k_bin2, k_neg, k_not, k_not2, k_and, k_and1, k_and0, k_or, k_or1, k_or0, k_cmp, k_cmp2, k_cmp3, k_c2, k_c2b, k_c2t, k_c2f, k_ite, k_ite1, k_ite0, k_call, k_ck, k_ck2, k_blt, k_isi, k_idx, k_idx2, k_sl, k_sl2, k_sl3, k_tup, k_tup2, k_lst, k_lst2, f_nil, f_cons, f_d, k_fz, k_fz2, k_comp, k_comp2, k_me2, k_es, k_es2, k_if, k_if1, k_if0, k_o, k_iL, k_iT, k_iK, k_r1, k_r2, k_r2b, k_sb, k_sb2, k_sb3, k_ts, k_as, k_as2, k_par, k_aug, k_aug2, k_ex, k_ret1, k_ret0, k_ret2, k_ifs, k_ifs1, k_ifs0, k_for, k_fo, k_foN, k_foC, k_foB, k_foR, k_sqN, k_sqC, k_sqB, k_sqR, k_fin, fin_d, fin_nx, c_nil, c_cons, k_cs, k_cs1, k_cs0, k_cs3, k_cs4, k_cs5, fo_nil, fo_cons, sizeL, evT, rb_ok, rb_no, q_add, q_sub, q_cmp, q_lt, q_le, q_gt, q_ge, q_eqI, q_neI, q_eqS, q_neS, q_isB, q_notB, q_isN, q_notN, q_truB, q_truI, q_truL, q_truT, q_truN, q_ixT, q_ixL, q_ixK, q_der, q_at0, q_at1, q_at2, q_at3, q_mkf, q_mkt, q_ixR, k_ixR, k_ix2, q_stR, k_stR, k_st2, q_slK, q_slL, fin_new, take_set, List.set_set, List.length_set, k_sqD0, ix30, ix31, ix32, b_lenL, b_lenT, b_lenK, b_int, b_intB, b_boolI, b_abs, b_max, b_min, b_tupL, b_tupT, b_gcd, b_listL, b_listT, b_listK, b_all, b_any, b_sum, asBools, asInts, Option.map_some, Option.map_none, isiD, List.map_cons, List.map_nil, List.cons_append, List.nil_append, List.append_nil, List.length_cons, List.length_nil, List.getElem?_cons_zero, List.getElem?_cons_succ, List.set_cons_zero, List.set_cons_succ, List.replicate, List.replicate_zero, List.replicate_succ, List.take_length, List.take_succ_cons, Nat.sub_self, setAll, if_true, if_false, Bool.false_eq_true, Nat.reduceAdd, Nat.reduceSub, Nat.reduceLeDiff, Nat.reduceLT, permU, List.filterMap_cons, List.filterMap_nil, wipeE, e, q_atN xs hd]
theorem s__law_whole (n : Nat) {S : Sto} {j : Nat} {a b c : Int} (m : Int) (hS : S[j]? = some (some [.int a, .int b, .int c])) (hm : 0 ≤ m) (hs : Sm 7000 m) :
    ∃ r a' b' c', -m ≤ r ∧ r ≤ m ∧ call T (n + 2) 18 [.r j, .d (.int m)] S = .ok (.d (.int r)) (S.set j (some [.int a', .int b', .int c'])) := by
  have t2 : Sm 2 2 := by unfold Sm; decide
  have o1 : Sm 1 1 := by unfold Sm; decide
  obtain ⟨r, a1, b1, c1, h1, h2, e⟩ := s__law_take (T := T) n (2 * m + 1) hS (by omega) (Sm.mono ((t2.mul hs).add o1) (by decide))
  refine ⟨r - m, a1, b1, c1, by omega, by omega, ?_⟩
  have ml : mulOk 2 m = true := mulOk_l (t2.mono (by decide))
  rw [call_at t_18 ⟨rfl, by decide⟩]
  simp only [c_18, i_zip3, k_z3, k_z3b, k_z3c, z3_cons, z3_nil, k_enT, k_o1r, e_op1, e_op2, e_comp2, k_o1, k_o2, k_o2b, k_db, k_db2, k_dbT, k_dbI1, k_dbI0, k_db1, k_dbN, k_dbM, d_nil, d_cons, i_enum, i_zip, i_rev, k_enL, k_zi, k_ziL, k_ziT, k_rvL, k_rvT, e_var, k_var, x_aug, k_au, k_me, e_con, e_bin, e_neg, e_not, e_and, e_or, e_cmp, e_cmp2, e_ite, e_call, e_callk, e_blt, e_isi, e_idx, e_sl, e_tup, e_lst, e_comp, e_meth, es_nil, es_cons, if_nil, if_cons, o_none, o_some, i_ex, i_r1, i_r2, g_name, g_sub, g_tup, g_tupL, gs_nil, gs_cons, x_asg, x_par, x_ex, x_ret, x_ifs, x_for, x_whl, x_pass, x_brk, x_cont, xs_nil, xs_cons, k_bin, k_bin2, k_neg, k_not, k_not2, k_and, k_and1, k_and0, k_or, k_or1, k_or0, k_cmp, k_cmp2, k_cmp3, k_c2, k_c2b, k_c2t, k_c2f, k_ite, k_ite1, k_ite0, k_call, k_ck, k_ck2, k_blt, k_isi, k_idx, k_idx2, k_sl, k_sl2, k_sl3, k_tup, k_tup2, k_lst, k_lst2, f_nil, f_cons, f_d, k_fz, k_fz2, k_comp, k_comp2, k_me2, k_es, k_es2, k_if, k_if1, k_if0, k_o, k_iL, k_iT, k_iK, k_r1, k_r2, k_r2b, k_sb, k_sb2, k_sb3, k_ts, k_as, k_as2, k_par, k_aug, k_aug2, k_ex, k_ret1, k_ret0, k_ret2, k_ifs, k_ifs1, k_ifs0, k_for, k_fo, k_foN, k_foC, k_foB, k_foR, k_sqN, k_sqC, k_sqB, k_sqR, k_fin, fin_d, fin_nx, c_nil, c_cons, k_cs, k_cs1, k_cs0, k_cs3, k_cs4, k_cs5, fo_nil, fo_cons, sizeL, evT, rb_ok, rb_no, q_add, q_sub, q_cmp, q_lt, q_le, q_gt, q_ge, q_eqI, q_neI, q_eqS, q_neS, q_isB, q_notB, q_isN, q_notN, q_truB, q_truI, q_truL, q_truT, q_truN, q_ixT, q_ixL, q_ixK, q_der, q_at0, q_at1, q_at2, q_at3, q_mkf, q_mkt, q_ixR, k_ixR, k_ix2, q_stR, k_stR, k_st2, q_slK, q_slL, fin_new, take_set, List.set_set, List.length_set, k_sqD0, ix30, ix31, ix32, b_lenL, b_lenT, b_lenK, b_int, b_intB, b_boolI, b_abs, b_max, b_min, b_tupL, b_tupT, b_gcd, b_listL, b_listT, b_listK, b_all, b_any, b_sum, asBools, asInts, Option.map_some, Option.map_none, isiD, List.map_cons, List.map_nil, List.cons_append, List.nil_append, List.append_nil, List.length_cons, List.length_nil, List.getElem?_cons_zero, List.getElem?_cons_succ, List.set_cons_zero, List.set_cons_succ, List.replicate, List.replicate_zero, List.replicate_succ, List.take_length, List.take_succ_cons, Nat.sub_self, setAll, if_true, if_false, Bool.false_eq_true, Nat.reduceAdd, Nat.reduceSub, Nat.reduceLeDiff, Nat.reduceLT, permU, List.filterMap_cons, List.filterMap_nil, wipeE, q_mulG _ _ ml, e]
theorem w__law_common (n : Nat) (S : Sto) : ∀ (r l : Nat), whE (call T n) (.cmp .Gt (.var 1) (.con (.int 0))) c_19_b0
    [some (.d (.int l)), some (.d (.int r))] S = .ok (.nx [some (.d (.int (Nat.gcd l r : Nat))), some (.d (.int 0))]) S := by
  intro r
  induction r using Nat.strongRecOn with
  | _ r ih =>
    intro l
    by_cases h : r = 0
    · subst h
      rw [wh_stop _ (S1 := S) (by simp [i_zip3, k_z3, k_z3b, k_z3c, z3_cons, z3_nil, k_enT, k_o1r, e_op1, e_op2, e_comp2, k_o1, k_o2, k_o2b, k_db, k_db2, k_dbT, k_dbI1, k_dbI0, k_db1, k_dbN, k_dbM, d_nil, d_cons, i_enum, i_zip, i_rev, k_enL, k_zi, k_ziL, k_ziT, k_rvL, k_rvT, e_var, k_var, x_aug, k_au, k_me, e_con, e_bin, e_neg, e_not, e_and, e_or, e_cmp, e_cmp2, e_ite, e_call, e_callk, e_blt, e_isi, e_idx, e_sl, e_tup, e_lst, e_comp, e_meth, es_nil, es_cons, if_nil, if_cons, o_none, o_some, i_ex, i_r1, i_r2, g_name, g_sub, g_tup, g_tupL, gs_nil, gs_cons, x_asg, x_par, x_ex, x_ret, x_ifs, x_for, x_whl, x_pass, x_brk, x_cont, xs_nil, xs_cons, k_bin, k_bin2, k_neg, k_not, k_not2, k_and, k_and1, k_and0, k_or, k_or1, k_or0, k_cmp, k_cmp2, k_cmp3, k_c2, k_c2b, k_c2t, k_c2f, k_ite, k_ite1, k_ite0, k_call, k_ck, k_ck2, k_blt, k_isi, k_idx, k_idx2, k_sl, k_sl2, k_sl3, k_tup, k_tup2, k_lst, k_lst2, f_nil, f_cons, f_d, k_fz, k_fz2, k_comp, k_comp2, k_me2, k_es, k_es2, k_if, k_if1, k_if0, k_o, k_iL, k_iT, k_iK, k_r1, k_r2, k_r2b, k_sb, k_sb2, k_sb3, k_ts, k_as, k_as2, k_par, k_aug, k_aug2, k_ex, k_ret1, k_ret0, k_ret2, k_ifs, k_ifs1, k_ifs0, k_for, k_fo, k_foN, k_foC, k_foB, k_foR, k_sqN, k_sqC, k_sqB, k_sqR, k_fin, fin_d, fin_nx, c_nil, c_cons, k_cs, k_cs1, k_cs0, k_cs3, k_cs4, k_cs5, fo_nil, fo_cons, sizeL, evT, rb_ok, rb_no, q_add, q_sub, q_cmp, q_lt, q_le, q_gt, q_ge, q_eqI, q_neI, q_eqS, q_neS, q_isB, q_notB, q_isN, q_notN, q_truB, q_truI, q_truL, q_truT, q_truN, q_ixT, q_ixL, q_ixK, q_der, q_at0, q_at1, q_at2, q_at3, q_mkf, q_mkt, q_ixR, k_ixR, k_ix2, q_stR, k_stR, k_st2, q_slK, q_slL, fin_new, take_set, List.set_set, List.length_set, k_sqD0, ix30, ix31, ix32, b_lenL, b_lenT, b_lenK, b_int, b_intB, b_boolI, b_abs, b_max, b_min, b_tupL, b_tupT, b_gcd, b_listL, b_listT, b_listK, b_all, b_any, b_sum, asBools, asInts, Option.map_some, Option.map_none, isiD, List.map_cons, List.map_nil, List.cons_append, List.nil_append, List.append_nil, List.length_cons, List.length_nil, List.getElem?_cons_zero, List.getElem?_cons_succ, List.set_cons_zero, List.set_cons_succ, List.replicate, List.replicate_zero, List.replicate_succ, List.take_length, List.take_succ_cons, Nat.sub_self, setAll, if_true, if_false, Bool.false_eq_true, Nat.reduceAdd, Nat.reduceSub, Nat.reduceLeDiff, Nat.reduceLT, permU, List.filterMap_cons, List.filterMap_nil, wipeE])]
      simp
    · have hp : (0 : Int) < r := by omega
      have h2 := ih (l % r) (Nat.mod_lt _ (by omega)) r
      rw [show Nat.gcd r (l % r) = Nat.gcd l r by rw [Nat.gcd_comm, ← Nat.gcd_rec, Nat.gcd_comm]] at h2
      refine wh_turn _ (S1 := S) (S2 := S) (e1 := [some (.d (.int r)), some (.d (.int (l % r : Nat)))]) (by simp [i_zip3, k_z3, k_z3b, k_z3c, z3_cons, z3_nil, k_enT, k_o1r, e_op1, e_op2, e_comp2, k_o1, k_o2, k_o2b, k_db, k_db2, k_dbT, k_dbI1, k_dbI0, k_db1, k_dbN, k_dbM, d_nil, d_cons, i_enum, i_zip, i_rev, k_enL, k_zi, k_ziL, k_ziT, k_rvL, k_rvT, e_var, k_var, x_aug, k_au, k_me, e_con, e_bin, e_neg, e_not, e_and, e_or, e_cmp, e_cmp2, e_ite, e_call, e_callk, e_blt, e_isi, e_idx, e_sl, e_tup, e_lst, e_comp, e_meth, es_nil, es_cons, if_nil, if_cons, o_none, o_some, i_ex, i_r1, i_r2, g_name, g_sub, g_tup, g_tupL, gs_nil, gs_cons, x_asg, x_par, x_ex, x_ret, x_ifs, x_for, x_whl, x_pass, x_brk, x_cont, xs_nil, xs_cons, k_bin, k_bin2, k_neg, k_not, k_not2, k_and, k_and1, k_and0, k_or, k_or1, k_or0, k_cmp, k_cmp2, k_cmp3, k_c2, k_c2b, k_c2t, k_c2f, k_ite, k_ite1, k_ite0, k_call, k_ck, k_ck2, k_blt, k_isi, k_idx, k_idx2, k_sl, k_sl2, k_sl3, k_tup, k_tup2, k_lst, k_lst2, f_nil, f_cons, f_d, k_fz, k_fz2, k_comp, k_comp2, k_me2, k_es, k_es2, k_if, k_if1, k_if0, k_o, k_iL, k_iT, k_iK, k_r1, k_r2, k_r2b, k_sb, k_sb2, k_sb3, k_ts, k_as, k_as2, k_par, k_aug, k_aug2, k_ex, k_ret1, k_ret0, k_ret2, k_ifs, k_ifs1, k_ifs0, k_for, k_fo, k_foN, k_foC, k_foB, k_foR, k_sqN, k_sqC, k_sqB, k_sqR, k_fin, fin_d, fin_nx, c_nil, c_cons, k_cs, k_cs1, k_cs0, k_cs3, k_cs4, k_cs5, fo_nil, fo_cons, sizeL, evT, rb_ok, rb_no, q_add, q_sub, q_cmp, q_lt, q_le, q_gt, q_ge, q_eqI, q_neI, q_eqS, q_neS, q_isB, q_notB, q_isN, q_notN, q_truB, q_truI, q_truL, q_truT, q_truN, q_ixT, q_ixL, q_ixK, q_der, q_at0, q_at1, q_at2, q_at3, q_mkf, q_mkt, q_ixR, k_ixR, k_ix2, q_stR, k_stR, k_st2, q_slK, q_slL, fin_new, take_set, List.set_set, List.length_set, k_sqD0, ix30, ix31, ix32, b_lenL, b_lenT, b_lenK, b_int, b_intB, b_boolI, b_abs, b_max, b_min, b_tupL, b_tupT, b_gcd, b_listL, b_listT, b_listK, b_all, b_any, b_sum, asBools, asInts, Option.map_some, Option.map_none, isiD, List.map_cons, List.map_nil, List.cons_append, List.nil_append, List.append_nil, List.length_cons, List.length_nil, List.getElem?_cons_zero, List.getElem?_cons_succ, List.set_cons_zero, List.set_cons_succ, List.replicate, List.replicate_zero, List.replicate_succ, List.take_length, List.take_succ_cons, Nat.sub_self, setAll, if_true, if_false, Bool.false_eq_true, Nat.reduceAdd, Nat.reduceSub, Nat.reduceLeDiff, Nat.reduceLT, permU, List.filterMap_cons, List.filterMap_nil, wipeE]; omega) ?_ h2
      have e : (l : Int).fmod r = ((l % r : Nat) : Int) := by rw [Int.fmod_eq_emod_of_nonneg _ (by omega)]; simp
      simp [c_19_b0, i_zip3, k_z3, k_z3b, k_z3c, z3_cons, z3_nil, k_enT, k_o1r, e_op1, e_op2, e_comp2, k_o1, k_o2, k_o2b, k_db, k_db2, k_dbT, k_dbI1, k_dbI0, k_db1, k_dbN, k_dbM, d_nil, d_cons, i_enum, i_zip, i_rev, k_enL, k_zi, k_ziL, k_ziT, k_rvL, k_rvT, e_var, k_var, x_aug, k_au, k_me, e_con, e_bin, e_neg, e_not, e_and, e_or, e_cmp, e_cmp2, e_ite, e_call, e_callk, e_blt, e_isi, e_idx, e_sl, e_tup, e_lst, e_comp, e_meth, es_nil, es_cons, if_nil, if_cons, o_none, o_some, i_ex, i_r1, i_r2, g_name, g_sub, g_tup, g_tupL, gs_nil, gs_cons, x_asg, x_par, x_ex, x_ret, x_ifs, x_for, x_whl, x_pass, x_brk, x_cont, xs_nil, xs_cons, k_bin, k_bin2, k_neg, k_not, k_not2, k_and, k_and1, k_and0, k_or, k_or1, k_or0, k_cmp, k_cmp2, k_cmp3, k_c2, k_c2b, k_c2t, k_c2f, k_ite, k_ite1, k_ite0, k_call, k_ck, k_ck2, k_blt, k_isi, k_idx, k_idx2, k_sl, k_sl2, k_sl3, k_tup, k_tup2, k_lst, k_lst2, f_nil, f_cons, f_d, k_fz, k_fz2, k_comp, k_comp2, k_me2, k_es, k_es2, k_if, k_if1, k_if0, k_o, k_iL, k_iT, k_iK, k_r1, k_r2, k_r2b, k_sb, k_sb2, k_sb3, k_ts, k_as, k_as2, k_par, k_aug, k_aug2, k_ex, k_ret1, k_ret0, k_ret2, k_ifs, k_ifs1, k_ifs0, k_for, k_fo, k_foN, k_foC, k_foB, k_foR, k_sqN, k_sqC, k_sqB, k_sqR, k_fin, fin_d, fin_nx, c_nil, c_cons, k_cs, k_cs1, k_cs0, k_cs3, k_cs4, k_cs5, fo_nil, fo_cons, sizeL, evT, rb_ok, rb_no, q_add, q_sub, q_cmp, q_lt, q_le, q_gt, q_ge, q_eqI, q_neI, q_eqS, q_neS, q_isB, q_notB, q_isN, q_notN, q_truB, q_truI, q_truL, q_truT, q_truN, q_ixT, q_ixL, q_ixK, q_der, q_at0, q_at1, q_at2, q_at3, q_mkf, q_mkt, q_ixR, k_ixR, k_ix2, q_stR, k_stR, k_st2, q_slK, q_slL, fin_new, take_set, List.set_set, List.length_set, k_sqD0, ix30, ix31, ix32, b_lenL, b_lenT, b_lenK, b_int, b_intB, b_boolI, b_abs, b_max, b_min, b_tupL, b_tupT, b_gcd, b_listL, b_listT, b_listK, b_all, b_any, b_sum, asBools, asInts, Option.map_some, Option.map_none, isiD, List.map_cons, List.map_nil, List.cons_append, List.nil_append, List.append_nil, List.length_cons, List.length_nil, List.getElem?_cons_zero, List.getElem?_cons_succ, List.set_cons_zero, List.set_cons_succ, List.replicate, List.replicate_zero, List.replicate_succ, List.take_length, List.take_succ_cons, Nat.sub_self, setAll, if_true, if_false, Bool.false_eq_true, Nat.reduceAdd, Nat.reduceSub, Nat.reduceLeDiff, Nat.reduceLT, permU, List.filterMap_cons, List.filterMap_nil, wipeE, q_mod, h, e]
theorem s__law_common (n : Nat) (a b : Int) (S : Sto) : call T (n + 1) 19 [.d (.int a), .d (.int b)] S = .ok (.d (.int (gc a b))) S := by
  rw [call_at t_19 ⟨rfl, by decide⟩]
  have e : ∀ i : Int, (if i < 0 then -i else i) = ((i.natAbs : Nat) : Int) := fun i => by split <;> omega
  simp only [c_19, i_zip3, k_z3, k_z3b, k_z3c, z3_cons, z3_nil, k_enT, k_o1r, e_op1, e_op2, e_comp2, k_o1, k_o2, k_o2b, k_db, k_db2, k_dbT, k_dbI1, k_dbI0, k_db1, k_dbN, k_dbM, d_nil, d_cons, i_enum, i_zip, i_rev, k_enL, k_zi, k_ziL, k_ziT, k_rvL, k_rvT, e_var, k_var, x_aug, k_au, k_me, e_con, e_bin, e_neg, e_not, e_and, e_or, e_cmp, e_cmp2, e_ite, e_call, e_callk, e_blt, e_isi, e_idx, e_sl, e_tup, e_lst, e_comp, e_meth, es_nil, es_cons, if_nil, if_cons, o_none, o_some, i_ex, i_r1, i_r2, g_name, g_sub, g_tup, g_tupL, gs_nil, gs_cons, x_asg, x_par, x_ex, x_ret, x_ifs, x_for, x_whl, x_pass, x_brk, x_cont, xs_nil, xs_cons, k_bin, k_bin2, k_neg, k_not, k_not2, k_and, k_and1, k_and0, k_or, k_or1, k_or0, k_cmp, k_cmp2, k_cmp3, k_c2, k_c2b, k_c2t, k_c2f, k_ite, k_ite1, k_ite0, k_call, k_ck, k_ck2, k_blt, k_isi, k_idx, k_idx2, k_sl, k_sl2, k_sl3, k_tup, k_tup2, k_lst, k_lst2, f_nil, f_cons, f_d, k_fz, k_fz2, k_comp, k_comp2, k_me2, k_es, k_es2, k_if, k_if1, k_if0, k_o, k_iL, k_iT, k_iK, k_r1, k_r2, k_r2b, k_sb, k_sb2, k_sb3, k_ts, k_as, k_as2, k_par, k_aug, k_aug2, k_ex, k_ret1, k_ret0, k_ret2, k_ifs, k_ifs1, k_ifs0, k_for, k_fo, k_foN, k_foC, k_foB, k_foR, k_sqN, k_sqC, k_sqB, k_sqR, k_fin, fin_d, fin_nx, c_nil, c_cons, k_cs, k_cs1, k_cs0, k_cs3, k_cs4, k_cs5, fo_nil, fo_cons, sizeL, evT, rb_ok, rb_no, q_add, q_sub, q_cmp, q_lt, q_le, q_gt, q_ge, q_eqI, q_neI, q_eqS, q_neS, q_isB, q_notB, q_isN, q_notN, q_truB, q_truI, q_truL, q_truT, q_truN, q_ixT, q_ixL, q_ixK, q_der, q_at0, q_at1, q_at2, q_at3, q_mkf, q_mkt, q_ixR, k_ixR, k_ix2, q_stR, k_stR, k_st2, q_slK, q_slL, fin_new, take_set, List.set_set, List.length_set, k_sqD0, ix30, ix31, ix32, b_lenL, b_lenT, b_lenK, b_int, b_intB, b_boolI, b_abs, b_max, b_min, b_tupL, b_tupT, b_gcd, b_listL, b_listT, b_listK, b_all, b_any, b_sum, asBools, asInts, Option.map_some, Option.map_none, isiD, List.map_cons, List.map_nil, List.cons_append, List.nil_append, List.append_nil, List.length_cons, List.length_nil, List.getElem?_cons_zero, List.getElem?_cons_succ, List.set_cons_zero, List.set_cons_succ, List.replicate, List.replicate_zero, List.replicate_succ, List.take_length, List.take_succ_cons, Nat.sub_self, setAll, if_true, if_false, Bool.false_eq_true, Nat.reduceAdd, Nat.reduceSub, Nat.reduceLeDiff, Nat.reduceLT, permU, List.filterMap_cons, List.filterMap_nil, wipeE, e, w__law_common]
  rfl
theorem s__law_ratio (n : Nat) (a b : Int) (S : Sto) (hb : 0 < b) (hg : (gcL [a, b]).natAbs.log2 < 9000) : call T (n + 2) 20 [.d (.int a), .d (.int b)] S = .ok (.d (.tuple ((redL [a, b]).map PyData.int))) S := by
  have h0 : gcL [a, b] ≠ 0 := fun e => by
    have := gcL_zero e b (by simp)
    omega
  have e2 : gcL [a, b] = gc a b := by simp [gcL, gc]
  simp only [redL, List.map_cons, List.map_nil]
  rw [e2] at hg h0 ⊢
  rw [call_at t_20 ⟨rfl, by decide⟩]
  simp only [c_20, i_zip3, k_z3, k_z3b, k_z3c, z3_cons, z3_nil, k_enT, k_o1r, e_op1, e_op2, e_comp2, k_o1, k_o2, k_o2b, k_db, k_db2, k_dbT, k_dbI1, k_dbI0, k_db1, k_dbN, k_dbM, d_nil, d_cons, i_enum, i_zip, i_rev, k_enL, k_zi, k_ziL, k_ziT, k_rvL, k_rvT, e_var, k_var, x_aug, k_au, k_me, e_con, e_bin, e_neg, e_not, e_and, e_or, e_cmp, e_cmp2, e_ite, e_call, e_callk, e_blt, e_isi, e_idx, e_sl, e_tup, e_lst, e_comp, e_meth, es_nil, es_cons, if_nil, if_cons, o_none, o_some, i_ex, i_r1, i_r2, g_name, g_sub, g_tup, g_tupL, gs_nil, gs_cons, x_asg, x_par, x_ex, x_ret, x_ifs, x_for, x_whl, x_pass, x_brk, x_cont, xs_nil, xs_cons, k_bin, k_bin2, k_neg, k_not, k_not2, k_and, k_and1, k_and0, k_or, k_or1, k_or0, k_cmp, k_cmp2, k_cmp3, k_c2, k_c2b, k_c2t, k_c2f, k_ite, k_ite1, k_ite0, k_call, k_ck, k_ck2, k_blt, k_isi, k_idx, k_idx2, k_sl, k_sl2, k_sl3, k_tup, k_tup2, k_lst, k_lst2, f_nil, f_cons, f_d, k_fz, k_fz2, k_comp, k_comp2, k_me2, k_es, k_es2, k_if, k_if1, k_if0, k_o, k_iL, k_iT, k_iK, k_r1, k_r2, k_r2b, k_sb, k_sb2, k_sb3, k_ts, k_as, k_as2, k_par, k_aug, k_aug2, k_ex, k_ret1, k_ret0, k_ret2, k_ifs, k_ifs1, k_ifs0, k_for, k_fo, k_foN, k_foC, k_foB, k_foR, k_sqN, k_sqC, k_sqB, k_sqR, k_fin, fin_d, fin_nx, c_nil, c_cons, k_cs, k_cs1, k_cs0, k_cs3, k_cs4, k_cs5, fo_nil, fo_cons, sizeL, evT, rb_ok, rb_no, q_add, q_sub, q_cmp, q_lt, q_le, q_gt, q_ge, q_eqI, q_neI, q_eqS, q_neS, q_isB, q_notB, q_isN, q_notN, q_truB, q_truI, q_truL, q_truT, q_truN, q_ixT, q_ixL, q_ixK, q_der, q_at0, q_at1, q_at2, q_at3, q_mkf, q_mkt, q_ixR, k_ixR, k_ix2, q_stR, k_stR, k_st2, q_slK, q_slL, fin_new, take_set, List.set_set, List.length_set, k_sqD0, ix30, ix31, ix32, b_lenL, b_lenT, b_lenK, b_int, b_intB, b_boolI, b_abs, b_max, b_min, b_tupL, b_tupT, b_gcd, b_listL, b_listT, b_listK, b_all, b_any, b_sum, asBools, asInts, Option.map_some, Option.map_none, isiD, List.map_cons, List.map_nil, List.cons_append, List.nil_append, List.append_nil, List.length_cons, List.length_nil, List.getElem?_cons_zero, List.getElem?_cons_succ, List.set_cons_zero, List.set_cons_succ, List.replicate, List.replicate_zero, List.replicate_succ, List.take_length, List.take_succ_cons, Nat.sub_self, setAll, if_true, if_false, Bool.false_eq_true, Nat.reduceAdd, Nat.reduceSub, Nat.reduceLeDiff, Nat.reduceLT, permU, List.filterMap_cons, List.filterMap_nil, wipeE, s__law_common, hb, decide_true, q_fdivG _ _ h0 hg]
theorem f__law_trim (n : Nat) (S : Sto) (ns : List Int) : ∀ (l : List D) (k : Nat) (o : Option U), k ≤ ns.length → (k ≤ l.length ∨ trimL (ns.take k) = ns.take k) → ∃ o', forE (call T n) (.name 2) c_21_b0 [] l [some (.d (.list (ns.map PyData.int))), some (.d (.int k)), o] S = .ok (.nx [some (.d (.list (ns.map PyData.int))), some (.d (.int (trimL (ns.take k)).length)), o']) S
  | [], k, o, hk, h => by
    refine ⟨o, ?_⟩
    have e : (trimL (ns.take k)).length = k := by
      rcases h with h | h
      · have : k = 0 := by simpa using h
        subst this
        rfl
      · rw [h, List.length_take, Nat.min_eq_left hk]
    rw [e, fo_nil]
  | x :: l, 0, o, hk, h => by
    obtain ⟨o', e⟩ := f__law_trim n S ns l 0 (some (.d x)) hk (.inl (Nat.zero_le _))
    refine ⟨o', ?_⟩
    simp only [fo_cons]
    simp only [c_21_b0, i_zip3, k_z3, k_z3b, k_z3c, z3_cons, z3_nil, k_enT, k_o1r, e_op1, e_op2, e_comp2, k_o1, k_o2, k_o2b, k_db, k_db2, k_dbT, k_dbI1, k_dbI0, k_db1, k_dbN, k_dbM, d_nil, d_cons, i_enum, i_zip, i_rev, k_enL, k_zi, k_ziL, k_ziT, k_rvL, k_rvT, e_var, k_var, x_aug, k_au, k_me, e_con, e_bin, e_neg, e_not, e_and, e_or, e_cmp, e_cmp2, e_ite, e_call, e_callk, e_blt, e_isi, e_idx, e_sl, e_tup, e_lst, e_comp, e_meth, es_nil, es_cons, if_nil, if_cons, o_none, o_some, i_ex, i_r1, i_r2, g_name, g_sub, g_tup, g_tupL, gs_nil, gs_cons, x_asg, x_par, x_ex, x_ret, x_ifs, x_for, x_whl, x_pass, x_brk, x_cont, xs_nil, xs_cons, k_bin, k_bin2, k_neg, k_not, k_not2, k_and, k_and1, k_and0, k_or, k_or1, k_or0, k_cmp, k_cmp2, k_cmp3, k_c2, k_c2b, k_c2t, k_c2f, k_ite, k_ite1, k_ite0, k_call, k_ck, k_ck2, k_blt, k_isi, k_idx, k_idx2, k_sl, k_sl2, k_sl3, k_tup, k_tup2, k_lst, k_lst2, f_nil, f_cons, f_d, k_fz, k_fz2, k_comp, k_comp2, k_me2, k_es, k_es2, k_if, k_if1, k_if0, k_o, k_iL, k_iT, k_iK, k_r1, k_r2, k_r2b, k_sb, k_sb2, k_sb3, k_ts, k_as, k_as2, k_par, k_aug, k_aug2, k_ex, k_ret1, k_ret0, k_ret2, k_ifs, k_ifs1, k_ifs0, k_for, k_fo, k_foN, k_foC, k_foB, k_foR, k_sqN, k_sqC, k_sqB, k_sqR, k_fin, fin_d, fin_nx, c_nil, c_cons, k_cs, k_cs1, k_cs0, k_cs3, k_cs4, k_cs5, fo_nil, fo_cons, sizeL, evT, rb_ok, rb_no, q_add, q_sub, q_cmp, q_lt, q_le, q_gt, q_ge, q_eqI, q_neI, q_eqS, q_neS, q_isB, q_notB, q_isN, q_notN, q_truB, q_truI, q_truL, q_truT, q_truN, q_ixT, q_ixL, q_ixK, q_der, q_at0, q_at1, q_at2, q_at3, q_mkf, q_mkt, q_ixR, k_ixR, k_ix2, q_stR, k_stR, k_st2, q_slK, q_slL, fin_new, take_set, List.set_set, List.length_set, k_sqD0, ix30, ix31, ix32, b_lenL, b_lenT, b_lenK, b_int, b_intB, b_boolI, b_abs, b_max, b_min, b_tupL, b_tupT, b_gcd, b_listL, b_listT, b_listK, b_all, b_any, b_sum, asBools, asInts, Option.map_some, Option.map_none, isiD, List.map_cons, List.map_nil, List.cons_append, List.nil_append, List.append_nil, List.length_cons, List.length_nil, List.getElem?_cons_zero, List.getElem?_cons_succ, List.set_cons_zero, List.set_cons_succ, List.replicate, List.replicate_zero, List.replicate_succ, List.take_length, List.take_succ_cons, Nat.sub_self, setAll, if_true, if_false, Bool.false_eq_true, Nat.reduceAdd, Nat.reduceSub, Nat.reduceLeDiff, Nat.reduceLT, permU, List.filterMap_cons, List.filterMap_nil, wipeE, Int.natCast_zero, Int.cast_ofNat_Int, Int.lt_irrefl, decide_false]
    exact e
  | x :: l, p + 1, o, hk, h => by
    obtain ⟨z, hz⟩ : ∃ z, ns[p]? = some z := ⟨_, List.getElem?_eq_getElem (by omega)⟩
    have hd : (ns.map PyData.int)[p]? = some (.int z) := by rw [List.getElem?_map, hz]; rfl
    have tk : ns.take (p + 1) = ns.take p ++ [z] := by rw [List.take_succ, hz]; rfl
    have c0 : (0 : Int) < ((p + 1 : Nat) : Int) := by omega
    have ep : ((p + 1 : Nat) : Int) - 1 = (p : Int) := by omega
    by_cases h0 : z = 0
    · subst h0
      obtain ⟨o', e⟩ := f__law_trim n S ns l p (some (.d x)) (by omega) (by
        rcases h with h | h
        · exact .inl (by simpa using h)
        · exfalso
          rw [tk] at h
          exact absurd (trim_last _ h) (by decide))
      refine ⟨o', ?_⟩
      rw [tk, trim_zero]
      simp only [fo_cons]
      simp only [c_21_b0, i_zip3, k_z3, k_z3b, k_z3c, z3_cons, z3_nil, k_enT, k_o1r, e_op1, e_op2, e_comp2, k_o1, k_o2, k_o2b, k_db, k_db2, k_dbT, k_dbI1, k_dbI0, k_db1, k_dbN, k_dbM, d_nil, d_cons, i_enum, i_zip, i_rev, k_enL, k_zi, k_ziL, k_ziT, k_rvL, k_rvT, e_var, k_var, x_aug, k_au, k_me, e_con, e_bin, e_neg, e_not, e_and, e_or, e_cmp, e_cmp2, e_ite, e_call, e_callk, e_blt, e_isi, e_idx, e_sl, e_tup, e_lst, e_comp, e_meth, es_nil, es_cons, if_nil, if_cons, o_none, o_some, i_ex, i_r1, i_r2, g_name, g_sub, g_tup, g_tupL, gs_nil, gs_cons, x_asg, x_par, x_ex, x_ret, x_ifs, x_for, x_whl, x_pass, x_brk, x_cont, xs_nil, xs_cons, k_bin, k_bin2, k_neg, k_not, k_not2, k_and, k_and1, k_and0, k_or, k_or1, k_or0, k_cmp, k_cmp2, k_cmp3, k_c2, k_c2b, k_c2t, k_c2f, k_ite, k_ite1, k_ite0, k_call, k_ck, k_ck2, k_blt, k_isi, k_idx, k_idx2, k_sl, k_sl2, k_sl3, k_tup, k_tup2, k_lst, k_lst2, f_nil, f_cons, f_d, k_fz, k_fz2, k_comp, k_comp2, k_me2, k_es, k_es2, k_if, k_if1, k_if0, k_o, k_iL, k_iT, k_iK, k_r1, k_r2, k_r2b, k_sb, k_sb2, k_sb3, k_ts, k_as, k_as2, k_par, k_aug, k_aug2, k_ex, k_ret1, k_ret0, k_ret2, k_ifs, k_ifs1, k_ifs0, k_for, k_fo, k_foN, k_foC, k_foB, k_foR, k_sqN, k_sqC, k_sqB, k_sqR, k_fin, fin_d, fin_nx, c_nil, c_cons, k_cs, k_cs1, k_cs0, k_cs3, k_cs4, k_cs5, fo_nil, fo_cons, sizeL, evT, rb_ok, rb_no, q_add, q_sub, q_cmp, q_lt, q_le, q_gt, q_ge, q_eqI, q_neI, q_eqS, q_neS, q_isB, q_notB, q_isN, q_notN, q_truB, q_truI, q_truL, q_truT, q_truN, q_ixT, q_ixL, q_ixK, q_der, q_at0, q_at1, q_at2, q_at3, q_mkf, q_mkt, q_ixR, k_ixR, k_ix2, q_stR, k_stR, k_st2, q_slK, q_slL, fin_new, take_set, List.set_set, List.length_set, k_sqD0, ix30, ix31, ix32, b_lenL, b_lenT, b_lenK, b_int, b_intB, b_boolI, b_abs, b_max, b_min, b_tupL, b_tupT, b_gcd, b_listL, b_listT, b_listK, b_all, b_any, b_sum, asBools, asInts, Option.map_some, Option.map_none, isiD, List.map_cons, List.map_nil, List.cons_append, List.nil_append, List.append_nil, List.length_cons, List.length_nil, List.getElem?_cons_zero, List.getElem?_cons_succ, List.set_cons_zero, List.set_cons_succ, List.replicate, List.replicate_zero, List.replicate_succ, List.take_length, List.take_succ_cons, Nat.sub_self, setAll, if_true, if_false, Bool.false_eq_true, Nat.reduceAdd, Nat.reduceSub, Nat.reduceLeDiff, Nat.reduceLT, permU, List.filterMap_cons, List.filterMap_nil, wipeE, c0, decide_true, ep, q_atN _ hd]
      exact e
    · obtain ⟨o', e⟩ := f__law_trim n S ns l (p + 1) (some (.d x)) hk (.inr (by rw [tk]; exact trim_end _ h0))
      refine ⟨o', ?_⟩
      simp only [fo_cons]
      simp only [c_21_b0, i_zip3, k_z3, k_z3b, k_z3c, z3_cons, z3_nil, k_enT, k_o1r, e_op1, e_op2, e_comp2, k_o1, k_o2, k_o2b, k_db, k_db2, k_dbT, k_dbI1, k_dbI0, k_db1, k_dbN, k_dbM, d_nil, d_cons, i_enum, i_zip, i_rev, k_enL, k_zi, k_ziL, k_ziT, k_rvL, k_rvT, e_var, k_var, x_aug, k_au, k_me, e_con, e_bin, e_neg, e_not, e_and, e_or, e_cmp, e_cmp2, e_ite, e_call, e_callk, e_blt, e_isi, e_idx, e_sl, e_tup, e_lst, e_comp, e_meth, es_nil, es_cons, if_nil, if_cons, o_none, o_some, i_ex, i_r1, i_r2, g_name, g_sub, g_tup, g_tupL, gs_nil, gs_cons, x_asg, x_par, x_ex, x_ret, x_ifs, x_for, x_whl, x_pass, x_brk, x_cont, xs_nil, xs_cons, k_bin, k_bin2, k_neg, k_not, k_not2, k_and, k_and1, k_and0, k_or, k_or1, k_or0, k_cmp, k_cmp2, k_cmp3, k_c2, k_c2b, k_c2t, k_c2f, k_ite, k_ite1, k_ite0, k_call, k_ck, k_ck2, k_blt, k_isi, k_idx, k_idx2, k_sl, k_sl2, k_sl3, k_tup, k_tup2, k_lst, k_lst2, f_nil, f_cons, f_d, k_fz, k_fz2, k_comp, k_comp2, k_me2, k_es, k_es2, k_if, k_if1, k_if0, k_o, k_iL, k_iT, k_iK, k_r1, k_r2, k_r2b, k_sb, k_sb2, k_sb3, k_ts, k_as, k_as2, k_par, k_aug, k_aug2, k_ex, k_ret1, k_ret0, k_ret2, k_ifs, k_ifs1, k_ifs0, k_for, k_fo, k_foN, k_foC, k_foB, k_foR, k_sqN, k_sqC, k_sqB, k_sqR, k_fin, fin_d, fin_nx, c_nil, c_cons, k_cs, k_cs1, k_cs0, k_cs3, k_cs4, k_cs5, fo_nil, fo_cons, sizeL, evT, rb_ok, rb_no, q_add, q_sub, q_cmp, q_lt, q_le, q_gt, q_ge, q_eqI, q_neI, q_eqS, q_neS, q_isB, q_notB, q_isN, q_notN, q_truB, q_truI, q_truL, q_truT, q_truN, q_ixT, q_ixL, q_ixK, q_der, q_at0, q_at1, q_at2, q_at3, q_mkf, q_mkt, q_ixR, k_ixR, k_ix2, q_stR, k_stR, k_st2, q_slK, q_slL, fin_new, take_set, List.set_set, List.length_set, k_sqD0, ix30, ix31, ix32, b_lenL, b_lenT, b_lenK, b_int, b_intB, b_boolI, b_abs, b_max, b_min, b_tupL, b_tupT, b_gcd, b_listL, b_listT, b_listK, b_all, b_any, b_sum, asBools, asInts, Option.map_some, Option.map_none, isiD, List.map_cons, List.map_nil, List.cons_append, List.nil_append, List.append_nil, List.length_cons, List.length_nil, List.getElem?_cons_zero, List.getElem?_cons_succ, List.set_cons_zero, List.set_cons_succ, List.replicate, List.replicate_zero, List.replicate_succ, List.take_length, List.take_succ_cons, Nat.sub_self, setAll, if_true, if_false, Bool.false_eq_true, Nat.reduceAdd, Nat.reduceSub, Nat.reduceLeDiff, Nat.reduceLT, permU, List.filterMap_cons, List.filterMap_nil, wipeE, c0, decide_true, ep, q_atN _ hd, h0, decide_false]
      exact e
theorem cut_to (xs : List D) (k : Nat) (h : k ≤ xs.length) : cutD xs none (some (k : Int)) = xs.take k := by
  have e1 : HT.sIx xs.length 0 none = 0 := rfl
  have e2 : HT.sIx xs.length xs.length (some (k : Int)) = k := by
    unfold HT.sIx
    simp only [if_neg (show ¬ ((k : Int) < 0) by omega), Int.toNat_natCast]
    exact Nat.min_eq_left h
  unfold cutD
  rw [e1, e2]
  simp
theorem s__law_trim (n : Nat) (ns : List Int) (h : ns.length < 16777216) (S : Sto) : call T (n + 1) 21 [.d (.list (ns.map PyData.int))] S = .ok (.d (.list ((trimL ns).map PyData.int))) S := by
  obtain ⟨o', e⟩ := f__law_trim (T := T) n S ns ((List.range ns.length).map fun (k : Nat) => PyData.int (k : Int)) ns.length none (Nat.le_refl _) (.inl (by simp))
  rw [List.take_length] at e
  have k1 : -(2 ^ 62 : Int) ≤ (ns.length : Int) ∧ (ns.length : Int) < 2 ^ 62 := by omega
  have cu := cut_to (ns.map PyData.int) (trimL ns).length (by rw [List.length_map]; exact trim_le ns)
  have tk : (ns.map PyData.int).take (trimL ns).length = (trimL ns).map PyData.int := by
    rw [← List.map_take, ← trim_take]
  rw [tk] at cu
  rw [call_at t_21 ⟨rfl, by decide⟩]
  simp only [c_21, i_zip3, k_z3, k_z3b, k_z3c, z3_cons, z3_nil, k_enT, k_o1r, e_op1, e_op2, e_comp2, k_o1, k_o2, k_o2b, k_db, k_db2, k_dbT, k_dbI1, k_dbI0, k_db1, k_dbN, k_dbM, d_nil, d_cons, i_enum, i_zip, i_rev, k_enL, k_zi, k_ziL, k_ziT, k_rvL, k_rvT, e_var, k_var, x_aug, k_au, k_me, e_con, e_bin, e_neg, e_not, e_and, e_or, e_cmp, e_cmp2, e_ite, e_call, e_callk, e_blt, e_isi, e_idx, e_sl, e_tup, e_lst, e_comp, e_meth, es_nil, es_cons, if_nil, if_cons, o_none, o_some, i_ex, i_r1, i_r2, g_name, g_sub, g_tup, g_tupL, gs_nil, gs_cons, x_asg, x_par, x_ex, x_ret, x_ifs, x_for, x_whl, x_pass, x_brk, x_cont, xs_nil, xs_cons, k_bin, k_bin2, k_neg, k_not, k_not2, k_and, k_and1, k_and0, k_or, k_or1, k_or0, k_cmp, k_cmp2, k_cmp3, k_c2, k_c2b, k_c2t, k_c2f, k_ite, k_ite1, k_ite0, k_call, k_ck, k_ck2, k_blt, k_isi, k_idx, k_idx2, k_sl, k_sl2, k_sl3, k_tup, k_tup2, k_lst, k_lst2, f_nil, f_cons, f_d, k_fz, k_fz2, k_comp, k_comp2, k_me2, k_es, k_es2, k_if, k_if1, k_if0, k_o, k_iL, k_iT, k_iK, k_r1, k_r2, k_r2b, k_sb, k_sb2, k_sb3, k_ts, k_as, k_as2, k_par, k_aug, k_aug2, k_ex, k_ret1, k_ret0, k_ret2, k_ifs, k_ifs1, k_ifs0, k_for, k_fo, k_foN, k_foC, k_foB, k_foR, k_sqN, k_sqC, k_sqB, k_sqR, k_fin, fin_d, fin_nx, c_nil, c_cons, k_cs, k_cs1, k_cs0, k_cs3, k_cs4, k_cs5, fo_nil, fo_cons, sizeL, evT, rb_ok, rb_no, q_add, q_sub, q_cmp, q_lt, q_le, q_gt, q_ge, q_eqI, q_neI, q_eqS, q_neS, q_isB, q_notB, q_isN, q_notN, q_truB, q_truI, q_truL, q_truT, q_truN, q_ixT, q_ixL, q_ixK, q_der, q_at0, q_at1, q_at2, q_at3, q_mkf, q_mkt, q_ixR, k_ixR, k_ix2, q_stR, k_stR, k_st2, q_slK, q_slL, fin_new, take_set, List.set_set, List.length_set, k_sqD0, ix30, ix31, ix32, b_lenL, b_lenT, b_lenK, b_int, b_intB, b_boolI, b_abs, b_max, b_min, b_tupL, b_tupT, b_gcd, b_listL, b_listT, b_listK, b_all, b_any, b_sum, asBools, asInts, Option.map_some, Option.map_none, isiD, List.map_cons, List.map_nil, List.cons_append, List.nil_append, List.append_nil, List.length_cons, List.length_nil, List.getElem?_cons_zero, List.getElem?_cons_succ, List.set_cons_zero, List.set_cons_succ, List.replicate, List.replicate_zero, List.replicate_succ, List.take_length, List.take_succ_cons, Nat.sub_self, setAll, if_true, if_false, Bool.false_eq_true, Nat.reduceAdd, Nat.reduceSub, Nat.reduceLeDiff, Nat.reduceLT, permU, List.filterMap_cons, List.filterMap_nil, wipeE, List.length_map, k1, and_self, range_ints, e, cu]
theorem g__law_trim (n : Nat) {S : Sto} {j : Nat} (ns : List Int) (hS : S[j]? = some (some (ns.map PyData.int))) : ∀ (l : List D) (k : Nat) (o : Option U), k ≤ ns.length → (k ≤ l.length ∨ trimL (ns.take k) = ns.take k) → ∃ o', forE (call T n) (.name 2) c_21_b0 [] l [some (.r j), some (.d (.int k)), o] S = .ok (.nx [some (.r j), some (.d (.int (trimL (ns.take k)).length)), o']) S
  | [], k, o, hk, h => by
    refine ⟨o, ?_⟩
    have e : (trimL (ns.take k)).length = k := by
      rcases h with h | h
      · have : k = 0 := by simpa using h
        subst this
        rfl
      · rw [h, List.length_take, Nat.min_eq_left hk]
    rw [e, fo_nil]
  | x :: l, 0, o, hk, h => by
    obtain ⟨o', e⟩ := g__law_trim n ns hS l 0 (some (.d x)) hk (.inl (Nat.zero_le _))
    refine ⟨o', ?_⟩
    simp only [fo_cons]
    simp only [c_21_b0, i_zip3, k_z3, k_z3b, k_z3c, z3_cons, z3_nil, k_enT, k_o1r, e_op1, e_op2, e_comp2, k_o1, k_o2, k_o2b, k_db, k_db2, k_dbT, k_dbI1, k_dbI0, k_db1, k_dbN, k_dbM, d_nil, d_cons, i_enum, i_zip, i_rev, k_enL, k_zi, k_ziL, k_ziT, k_rvL, k_rvT, e_var, k_var, x_aug, k_au, k_me, e_con, e_bin, e_neg, e_not, e_and, e_or, e_cmp, e_cmp2, e_ite, e_call, e_callk, e_blt, e_isi, e_idx, e_sl, e_tup, e_lst, e_comp, e_meth, es_nil, es_cons, if_nil, if_cons, o_none, o_some, i_ex, i_r1, i_r2, g_name, g_sub, g_tup, g_tupL, gs_nil, gs_cons, x_asg, x_par, x_ex, x_ret, x_ifs, x_for, x_whl, x_pass, x_brk, x_cont, xs_nil, xs_cons, k_bin, k_bin2, k_neg, k_not, k_not2, k_and, k_and1, k_and0, k_or, k_or1, k_or0, k_cmp, k_cmp2, k_cmp3, k_c2, k_c2b, k_c2t, k_c2f, k_ite, k_ite1, k_ite0, k_call, k_ck, k_ck2, k_blt, k_isi, k_idx, k_idx2, k_sl, k_sl2, k_sl3, k_tup, k_tup2, k_lst, k_lst2, f_nil, f_cons, f_d, k_fz, k_fz2, k_comp, k_comp2, k_me2, k_es, k_es2, k_if, k_if1, k_if0, k_o, k_iL, k_iT, k_iK, k_r1, k_r2, k_r2b, k_sb, k_sb2, k_sb3, k_ts, k_as, k_as2, k_par, k_aug, k_aug2, k_ex, k_ret1, k_ret0, k_ret2, k_ifs, k_ifs1, k_ifs0, k_for, k_fo, k_foN, k_foC, k_foB, k_foR, k_sqN, k_sqC, k_sqB, k_sqR, k_fin, fin_d, fin_nx, c_nil, c_cons, k_cs, k_cs1, k_cs0, k_cs3, k_cs4, k_cs5, fo_nil, fo_cons, sizeL, evT, rb_ok, rb_no, q_add, q_sub, q_cmp, q_lt, q_le, q_gt, q_ge, q_eqI, q_neI, q_eqS, q_neS, q_isB, q_notB, q_isN, q_notN, q_truB, q_truI, q_truL, q_truT, q_truN, q_ixT, q_ixL, q_ixK, q_der, q_at0, q_at1, q_at2, q_at3, q_mkf, q_mkt, q_ixR, k_ixR, k_ix2, q_stR, k_stR, k_st2, q_slK, q_slL, fin_new, take_set, List.set_set, List.length_set, k_sqD0, ix30, ix31, ix32, b_lenL, b_lenT, b_lenK, b_int, b_intB, b_boolI, b_abs, b_max, b_min, b_tupL, b_tupT, b_gcd, b_listL, b_listT, b_listK, b_all, b_any, b_sum, asBools, asInts, Option.map_some, Option.map_none, isiD, List.map_cons, List.map_nil, List.cons_append, List.nil_append, List.append_nil, List.length_cons, List.length_nil, List.getElem?_cons_zero, List.getElem?_cons_succ, List.set_cons_zero, List.set_cons_succ, List.replicate, List.replicate_zero, List.replicate_succ, List.take_length, List.take_succ_cons, Nat.sub_self, setAll, if_true, if_false, Bool.false_eq_true, Nat.reduceAdd, Nat.reduceSub, Nat.reduceLeDiff, Nat.reduceLT, permU, List.filterMap_cons, List.filterMap_nil, wipeE, Int.natCast_zero, Int.cast_ofNat_Int, Int.lt_irrefl, decide_false]
    exact e
  | x :: l, p + 1, o, hk, h => by
    obtain ⟨z, hz⟩ : ∃ z, ns[p]? = some z := ⟨_, List.getElem?_eq_getElem (by omega)⟩
    have hd : (ns.map PyData.int)[p]? = some (.int z) := by rw [List.getElem?_map, hz]; rfl
    have tk : ns.take (p + 1) = ns.take p ++ [z] := by rw [List.take_succ, hz]; rfl
    have c0 : (0 : Int) < ((p + 1 : Nat) : Int) := by omega
    have ep : ((p + 1 : Nat) : Int) - 1 = (p : Int) := by omega
    by_cases h0 : z = 0
    · subst h0
      obtain ⟨o', e⟩ := g__law_trim n ns hS l p (some (.d x)) (by omega) (by
        rcases h with h | h
        · exact .inl (by simpa using h)
        · exfalso
          rw [tk] at h
          exact absurd (trim_last _ h) (by decide))
      refine ⟨o', ?_⟩
      rw [tk, trim_zero]
      simp only [fo_cons]
      simp only [c_21_b0, i_zip3, k_z3, k_z3b, k_z3c, z3_cons, z3_nil, k_enT, k_o1r, e_op1, e_op2, e_comp2, k_o1, k_o2, k_o2b, k_db, k_db2, k_dbT, k_dbI1, k_dbI0, k_db1, k_dbN, k_dbM, d_nil, d_cons, i_enum, i_zip, i_rev, k_enL, k_zi, k_ziL, k_ziT, k_rvL, k_rvT, e_var, k_var, x_aug, k_au, k_me, e_con, e_bin, e_neg, e_not, e_and, e_or, e_cmp, e_cmp2, e_ite, e_call, e_callk, e_blt, e_isi, e_idx, e_sl, e_tup, e_lst, e_comp, e_meth, es_nil, es_cons, if_nil, if_cons, o_none, o_some, i_ex, i_r1, i_r2, g_name, g_sub, g_tup, g_tupL, gs_nil, gs_cons, x_asg, x_par, x_ex, x_ret, x_ifs, x_for, x_whl, x_pass, x_brk, x_cont, xs_nil, xs_cons, k_bin, k_bin2, k_neg, k_not, k_not2, k_and, k_and1, k_and0, k_or, k_or1, k_or0, k_cmp, k_cmp2, k_cmp3, k_c2, k_c2b, k_c2t, k_c2f, k_ite, k_ite1, k_ite0, k_call, k_ck, k_ck2, k_blt, k_isi, k_idx, k_idx2, k_sl, k_sl2, k_sl3, k_tup, k_tup2, k_lst, k_lst2, f_nil, f_cons, f_d, k_fz, k_fz2, k_comp, k_comp2, k_me2, k_es, k_es2, k_if, k_if1, k_if0, k_o, k_iL, k_iT, k_iK, k_r1, k_r2, k_r2b, k_sb, k_sb2, k_sb3, k_ts, k_as, k_as2, k_par, k_aug, k_aug2, k_ex, k_ret1, k_ret0, k_ret2, k_ifs, k_ifs1, k_ifs0, k_for, k_fo, k_foN, k_foC, k_foB, k_foR, k_sqN, k_sqC, k_sqB, k_sqR, k_fin, fin_d, fin_nx, c_nil, c_cons, k_cs, k_cs1, k_cs0, k_cs3, k_cs4, k_cs5, fo_nil, fo_cons, sizeL, evT, rb_ok, rb_no, q_add, q_sub, q_cmp, q_lt, q_le, q_gt, q_ge, q_eqI, q_neI, q_eqS, q_neS, q_isB, q_notB, q_isN, q_notN, q_truB, q_truI, q_truL, q_truT, q_truN, q_ixT, q_ixL, q_ixK, q_der, q_at0, q_at1, q_at2, q_at3, q_mkf, q_mkt, q_ixR, k_ixR, k_ix2, q_stR, k_stR, k_st2, q_slK, q_slL, fin_new, take_set, List.set_set, List.length_set, k_sqD0, ix30, ix31, ix32, b_lenL, b_lenT, b_lenK, b_int, b_intB, b_boolI, b_abs, b_max, b_min, b_tupL, b_tupT, b_gcd, b_listL, b_listT, b_listK, b_all, b_any, b_sum, asBools, asInts, Option.map_some, Option.map_none, isiD, List.map_cons, List.map_nil, List.cons_append, List.nil_append, List.append_nil, List.length_cons, List.length_nil, List.getElem?_cons_zero, List.getElem?_cons_succ, List.set_cons_zero, List.set_cons_succ, List.replicate, List.replicate_zero, List.replicate_succ, List.take_length, List.take_succ_cons, Nat.sub_self, setAll, if_true, if_false, Bool.false_eq_true, Nat.reduceAdd, Nat.reduceSub, Nat.reduceLeDiff, Nat.reduceLT, permU, List.filterMap_cons, List.filterMap_nil, wipeE, c0, decide_true, ep, r_idx hS (q_atN _ hd)]
      exact e
    · obtain ⟨o', e⟩ := g__law_trim n ns hS l (p + 1) (some (.d x)) hk (.inr (by rw [tk]; exact trim_end _ h0))
      refine ⟨o', ?_⟩
      simp only [fo_cons]
      simp only [c_21_b0, i_zip3, k_z3, k_z3b, k_z3c, z3_cons, z3_nil, k_enT, k_o1r, e_op1, e_op2, e_comp2, k_o1, k_o2, k_o2b, k_db, k_db2, k_dbT, k_dbI1, k_dbI0, k_db1, k_dbN, k_dbM, d_nil, d_cons, i_enum, i_zip, i_rev, k_enL, k_zi, k_ziL, k_ziT, k_rvL, k_rvT, e_var, k_var, x_aug, k_au, k_me, e_con, e_bin, e_neg, e_not, e_and, e_or, e_cmp, e_cmp2, e_ite, e_call, e_callk, e_blt, e_isi, e_idx, e_sl, e_tup, e_lst, e_comp, e_meth, es_nil, es_cons, if_nil, if_cons, o_none, o_some, i_ex, i_r1, i_r2, g_name, g_sub, g_tup, g_tupL, gs_nil, gs_cons, x_asg, x_par, x_ex, x_ret, x_ifs, x_for, x_whl, x_pass, x_brk, x_cont, xs_nil, xs_cons, k_bin, k_bin2, k_neg, k_not, k_not2, k_and, k_and1, k_and0, k_or, k_or1, k_or0, k_cmp, k_cmp2, k_cmp3, k_c2, k_c2b, k_c2t, k_c2f, k_ite, k_ite1, k_ite0, k_call, k_ck, k_ck2, k_blt, k_isi, k_idx, k_idx2, k_sl, k_sl2, k_sl3, k_tup, k_tup2, k_lst, k_lst2, f_nil, f_cons, f_d, k_fz, k_fz2, k_comp, k_comp2, k_me2, k_es, k_es2, k_if, k_if1, k_if0, k_o, k_iL, k_iT, k_iK, k_r1, k_r2, k_r2b, k_sb, k_sb2, k_sb3, k_ts, k_as, k_as2, k_par, k_aug, k_aug2, k_ex, k_ret1, k_ret0, k_ret2, k_ifs, k_ifs1, k_ifs0, k_for, k_fo, k_foN, k_foC, k_foB, k_foR, k_sqN, k_sqC, k_sqB, k_sqR, k_fin, fin_d, fin_nx, c_nil, c_cons, k_cs, k_cs1, k_cs0, k_cs3, k_cs4, k_cs5, fo_nil, fo_cons, sizeL, evT, rb_ok, rb_no, q_add, q_sub, q_cmp, q_lt, q_le, q_gt, q_ge, q_eqI, q_neI, q_eqS, q_neS, q_isB, q_notB, q_isN, q_notN, q_truB, q_truI, q_truL, q_truT, q_truN, q_ixT, q_ixL, q_ixK, q_der, q_at0, q_at1, q_at2, q_at3, q_mkf, q_mkt, q_ixR, k_ixR, k_ix2, q_stR, k_stR, k_st2, q_slK, q_slL, fin_new, take_set, List.set_set, List.length_set, k_sqD0, ix30, ix31, ix32, b_lenL, b_lenT, b_lenK, b_int, b_intB, b_boolI, b_abs, b_max, b_min, b_tupL, b_tupT, b_gcd, b_listL, b_listT, b_listK, b_all, b_any, b_sum, asBools, asInts, Option.map_some, Option.map_none, isiD, List.map_cons, List.map_nil, List.cons_append, List.nil_append, List.append_nil, List.length_cons, List.length_nil, List.getElem?_cons_zero, List.getElem?_cons_succ, List.set_cons_zero, List.set_cons_succ, List.replicate, List.replicate_zero, List.replicate_succ, List.take_length, List.take_succ_cons, Nat.sub_self, setAll, if_true, if_false, Bool.false_eq_true, Nat.reduceAdd, Nat.reduceSub, Nat.reduceLeDiff, Nat.reduceLT, permU, List.filterMap_cons, List.filterMap_nil, wipeE, c0, decide_true, ep, r_idx hS (q_atN _ hd), h0, decide_false]
      exact e
theorem s__law_trim_own (n : Nat) {S : Sto} {j : Nat} (ns : List Int) (h : ns.length < 16777216) (hS : S[j]? = some (some (ns.map PyData.int))) : call T (n + 1) 21 [.r j] S = .ok (.d (.list ((trimL ns).map PyData.int))) S := by
  obtain ⟨o', e⟩ := g__law_trim (T := T) n ns hS ((List.range ns.length).map fun (k : Nat) => PyData.int (k : Int)) ns.length none (Nat.le_refl _) (.inl (by simp))
  rw [List.take_length] at e
  have k1 : -(2 ^ 62 : Int) ≤ (ns.length : Int) ∧ (ns.length : Int) < 2 ^ 62 := by omega
  have cu := cut_to (ns.map PyData.int) (trimL ns).length (by rw [List.length_map]; exact trim_le ns)
  have tk : (ns.map PyData.int).take (trimL ns).length = (trimL ns).map PyData.int := by
    rw [← List.map_take, ← trim_take]
  rw [tk] at cu
  have q1 := r_len hS
  have q2 := fun m lo hi => r_sl (S := S) m lo hi hS
  rw [call_at t_21 ⟨rfl, by decide⟩]
  simp only [c_21, i_zip3, k_z3, k_z3b, k_z3c, z3_cons, z3_nil, k_enT, k_o1r, e_op1, e_op2, e_comp2, k_o1, k_o2, k_o2b, k_db, k_db2, k_dbT, k_dbI1, k_dbI0, k_db1, k_dbN, k_dbM, d_nil, d_cons, i_enum, i_zip, i_rev, k_enL, k_zi, k_ziL, k_ziT, k_rvL, k_rvT, e_var, k_var, x_aug, k_au, k_me, e_con, e_bin, e_neg, e_not, e_and, e_or, e_cmp, e_cmp2, e_ite, e_call, e_callk, e_blt, e_isi, e_idx, e_sl, e_tup, e_lst, e_comp, e_meth, es_nil, es_cons, if_nil, if_cons, o_none, o_some, i_ex, i_r1, i_r2, g_name, g_sub, g_tup, g_tupL, gs_nil, gs_cons, x_asg, x_par, x_ex, x_ret, x_ifs, x_for, x_whl, x_pass, x_brk, x_cont, xs_nil, xs_cons, k_bin, k_bin2, k_neg, k_not, k_not2, k_and, k_and1, k_and0, k_or, k_or1, k_or0, k_cmp, k_cmp2, k_cmp3, k_c2, k_c2b, k_c2t, k_c2f, k_ite, k_ite1, k_ite0, k_call, k_ck, k_ck2, k_blt, k_isi, k_idx, k_idx2, k_sl, k_sl2, k_sl3, k_tup, k_tup2, k_lst, k_lst2, f_nil, f_cons, f_d, k_fz, k_fz2, k_comp, k_comp2, k_me2, k_es, k_es2, k_if, k_if1, k_if0, k_o, k_iL, k_iT, k_iK, k_r1, k_r2, k_r2b, k_sb, k_sb2, k_sb3, k_ts, k_as, k_as2, k_par, k_aug, k_aug2, k_ex, k_ret1, k_ret0, k_ret2, k_ifs, k_ifs1, k_ifs0, k_for, k_fo, k_foN, k_foC, k_foB, k_foR, k_sqN, k_sqC, k_sqB, k_sqR, k_fin, fin_d, fin_nx, c_nil, c_cons, k_cs, k_cs1, k_cs0, k_cs3, k_cs4, k_cs5, fo_nil, fo_cons, sizeL, evT, rb_ok, rb_no, q_add, q_sub, q_cmp, q_lt, q_le, q_gt, q_ge, q_eqI, q_neI, q_eqS, q_neS, q_isB, q_notB, q_isN, q_notN, q_truB, q_truI, q_truL, q_truT, q_truN, q_ixT, q_ixL, q_ixK, q_der, q_at0, q_at1, q_at2, q_at3, q_mkf, q_mkt, q_ixR, k_ixR, k_ix2, q_stR, k_stR, k_st2, q_slK, q_slL, fin_new, take_set, List.set_set, List.length_set, k_sqD0, ix30, ix31, ix32, b_lenL, b_lenT, b_lenK, b_int, b_intB, b_boolI, b_abs, b_max, b_min, b_tupL, b_tupT, b_gcd, b_listL, b_listT, b_listK, b_all, b_any, b_sum, asBools, asInts, Option.map_some, Option.map_none, isiD, List.map_cons, List.map_nil, List.cons_append, List.nil_append, List.append_nil, List.length_cons, List.length_nil, List.getElem?_cons_zero, List.getElem?_cons_succ, List.set_cons_zero, List.set_cons_succ, List.replicate, List.replicate_zero, List.replicate_succ, List.take_length, List.take_succ_cons, Nat.sub_self, setAll, if_true, if_false, Bool.false_eq_true, Nat.reduceAdd, Nat.reduceSub, Nat.reduceLeDiff, Nat.reduceLT, permU, List.filterMap_cons, List.filterMap_nil, wipeE, q1, List.length_map, k1, and_self, range_ints, e, q2, cu]
theorem rw_len (t : Bool) (xs : List Int) (S : Sto) : bltU .len [.d (rwD t xs)] S = .ok (.d (.int xs.length)) S := by
  cases t <;> simp [rwD, b_lenL, b_lenT]
theorem rw_list (t : Bool) (xs : List Int) (S : Sto) : bltU (.list false) [.d (rwD t xs)] S = .ok (.d (.list (xs.map PyData.int))) S := by
  cases t <;> simp [rwD, b_listL, b_listT, q_mkf]
theorem rw_ix (t : Bool) (xs : List Int) {i : Nat} {z : Int} (h : xs[i]? = some z) (S : Sto) : idxU (.d (rwD t xs)) (.d (.int (i : Int))) S = .ok (.d (.int z)) S := by
  have e : atI (xs.map PyData.int) (i : Int) = some (.int z) := q_atN _ (by rw [List.getElem?_map, h]; rfl)
  cases t
  · simp only [rwD, q_ixL, e, Bool.false_eq_true, if_false]
  · simp only [rwD, q_ixT, e, if_true]
theorem s__law_sum (n : Nat) (t u : Bool) (xs ys : List Int) (hx : xs.length ≤ 5000) (hy : ys.length ≤ 5000) (S : Sto) : call T (n + 2) 22 [.d (rwD t xs), .d (rwD u ys), .d (.int 1)] S = .ok (.d (.list ((sumL xs ys).map PyData.int))) S := by
  have e3 := fun S => s__law_trim (T := T) n (addL xs ys) (by rw [add_len]; omega) S
  have ml : ∀ x : Int, mulOk 1 x = true := fun x => mulOk_l (by unfold Sm; decide)
  have c : ∀ (a b d : Option U) (o : Option U), compE (call T (n + 1)) [a, b, some (.d (.int 1)), d, some (.d (.list ((padL xs (max xs.length ys.length)).map PyData.int))), some (.d (.list ((padL ys (max xs.length ys.length)).map PyData.int))), o] [6] (.name 6) .nil (.bin false .Add (.idx (.var 4) (.var 6)) (.bin false .Mult (.var 2) (.idx (.var 5) (.var 6)))) [] ((List.range (max xs.length ys.length)).map fun (k : Nat) => PyData.int (k : Int)) S = .ok ((addL xs ys).map PyData.int) S := fun a b d o => by
    have := c_all (C := call T (n + 1)) (env := [a, b, some (.d (.int 1)), d, some (.d (.list ((padL xs (max xs.length ys.length)).map PyData.int))), some (.d (.list ((padL ys (max xs.length ys.length)).map PyData.int))), o]) (own := [6]) (tg := .name 6) (elt := .bin false .Add (.idx (.var 4) (.var 6)) (.bin false .Mult (.var 2) (.idx (.var 5) (.var 6)))) (S := S) (fun k : Nat => PyData.int (k : Int)) (fun k : Nat => PyData.int ((padL xs (max xs.length ys.length)).getD k 0 + 1 * (padL ys (max xs.length ys.length)).getD k 0)) (List.range (max xs.length ys.length)) fun k hk => by
      have hk2 : k < max xs.length ys.length := List.mem_range.mp hk
      have q1 := at_nat (padL xs (max xs.length ys.length)) (i := k) (by rw [pad_len (by omega)]; exact hk2)
      have q2 := at_nat (padL ys (max xs.length ys.length)) (i := k) (by rw [pad_len (by omega)]; exact hk2)
      exact ⟨[a, b, some (.d (.int 1)), d, some (.d (.list ((padL xs (max xs.length ys.length)).map PyData.int))), some (.d (.list ((padL ys (max xs.length ys.length)).map PyData.int))), some (.d (.int (k : Int)))], by simp only [i_zip3, k_z3, k_z3b, k_z3c, z3_cons, z3_nil, k_enT, k_o1r, e_op1, e_op2, e_comp2, k_o1, k_o2, k_o2b, k_db, k_db2, k_dbT, k_dbI1, k_dbI0, k_db1, k_dbN, k_dbM, d_nil, d_cons, i_enum, i_zip, i_rev, k_enL, k_zi, k_ziL, k_ziT, k_rvL, k_rvT, e_var, k_var, x_aug, k_au, k_me, e_con, e_bin, e_neg, e_not, e_and, e_or, e_cmp, e_cmp2, e_ite, e_call, e_callk, e_blt, e_isi, e_idx, e_sl, e_tup, e_lst, e_comp, e_meth, es_nil, es_cons, if_nil, if_cons, o_none, o_some, i_ex, i_r1, i_r2, g_name, g_sub, g_tup, g_tupL, gs_nil, gs_cons, x_asg, x_par, x_ex, x_ret, x_ifs, x_for, x_whl, x_pass, x_brk, x_cont, xs_nil, xs_cons, k_bin, k_bin2, k_neg, k_not, k_not2, k_and, k_and1, k_and0, k_or, k_or1, k_or0, k_cmp, k_cmp2, k_cmp3, k_c2, k_c2b, k_c2t, k_c2f, k_ite, k_ite1, k_ite0, k_call, k_ck, k_ck2, k_blt, k_isi, k_idx, k_idx2, k_sl, k_sl2, k_sl3, k_tup, k_tup2, k_lst, k_lst2, f_nil, f_cons, f_d, k_fz, k_fz2, k_comp, k_comp2, k_me2, k_es, k_es2, k_if, k_if1, k_if0, k_o, k_iL, k_iT, k_iK, k_r1, k_r2, k_r2b, k_sb, k_sb2, k_sb3, k_ts, k_as, k_as2, k_par, k_aug, k_aug2, k_ex, k_ret1, k_ret0, k_ret2, k_ifs, k_ifs1, k_ifs0, k_for, k_fo, k_foN, k_foC, k_foB, k_foR, k_sqN, k_sqC, k_sqB, k_sqR, k_fin, fin_d, fin_nx, c_nil, c_cons, k_cs, k_cs1, k_cs0, k_cs3, k_cs4, k_cs5, fo_nil, fo_cons, sizeL, evT, rb_ok, rb_no, q_add, q_sub, q_cmp, q_lt, q_le, q_gt, q_ge, q_eqI, q_neI, q_eqS, q_neS, q_isB, q_notB, q_isN, q_notN, q_truB, q_truI, q_truL, q_truT, q_truN, q_ixT, q_ixL, q_ixK, q_der, q_at0, q_at1, q_at2, q_at3, q_mkf, q_mkt, q_ixR, k_ixR, k_ix2, q_stR, k_stR, k_st2, q_slK, q_slL, fin_new, take_set, List.set_set, List.length_set, k_sqD0, ix30, ix31, ix32, b_lenL, b_lenT, b_lenK, b_int, b_intB, b_boolI, b_abs, b_max, b_min, b_tupL, b_tupT, b_gcd, b_listL, b_listT, b_listK, b_all, b_any, b_sum, asBools, asInts, Option.map_some, Option.map_none, isiD, List.map_cons, List.map_nil, List.cons_append, List.nil_append, List.append_nil, List.length_cons, List.length_nil, List.getElem?_cons_zero, List.getElem?_cons_succ, List.set_cons_zero, List.set_cons_succ, List.replicate, List.replicate_zero, List.replicate_succ, List.take_length, List.take_succ_cons, Nat.sub_self, setAll, if_true, if_false, Bool.false_eq_true, Nat.reduceAdd, Nat.reduceSub, Nat.reduceLeDiff, Nat.reduceLT, permU, List.filterMap_cons, List.filterMap_nil, wipeE], by simp only [i_zip3, k_z3, k_z3b, k_z3c, z3_cons, z3_nil, k_enT, k_o1r, e_op1, e_op2, e_comp2, k_o1, k_o2, k_o2b, k_db, k_db2, k_dbT, k_dbI1, k_dbI0, k_db1, k_dbN, k_dbM, d_nil, d_cons, i_enum, i_zip, i_rev, k_enL, k_zi, k_ziL, k_ziT, k_rvL, k_rvT, e_var, k_var, x_aug, k_au, k_me, e_con, e_bin, e_neg, e_not, e_and, e_or, e_cmp, e_cmp2, e_ite, e_call, e_callk, e_blt, e_isi, e_idx, e_sl, e_tup, e_lst, e_comp, e_meth, es_nil, es_cons, if_nil, if_cons, o_none, o_some, i_ex, i_r1, i_r2, g_name, g_sub, g_tup, g_tupL, gs_nil, gs_cons, x_asg, x_par, x_ex, x_ret, x_ifs, x_for, x_whl, x_pass, x_brk, x_cont, xs_nil, xs_cons, k_bin, k_bin2, k_neg, k_not, k_not2, k_and, k_and1, k_and0, k_or, k_or1, k_or0, k_cmp, k_cmp2, k_cmp3, k_c2, k_c2b, k_c2t, k_c2f, k_ite, k_ite1, k_ite0, k_call, k_ck, k_ck2, k_blt, k_isi, k_idx, k_idx2, k_sl, k_sl2, k_sl3, k_tup, k_tup2, k_lst, k_lst2, f_nil, f_cons, f_d, k_fz, k_fz2, k_comp, k_comp2, k_me2, k_es, k_es2, k_if, k_if1, k_if0, k_o, k_iL, k_iT, k_iK, k_r1, k_r2, k_r2b, k_sb, k_sb2, k_sb3, k_ts, k_as, k_as2, k_par, k_aug, k_aug2, k_ex, k_ret1, k_ret0, k_ret2, k_ifs, k_ifs1, k_ifs0, k_for, k_fo, k_foN, k_foC, k_foB, k_foR, k_sqN, k_sqC, k_sqB, k_sqR, k_fin, fin_d, fin_nx, c_nil, c_cons, k_cs, k_cs1, k_cs0, k_cs3, k_cs4, k_cs5, fo_nil, fo_cons, sizeL, evT, rb_ok, rb_no, q_add, q_sub, q_cmp, q_lt, q_le, q_gt, q_ge, q_eqI, q_neI, q_eqS, q_neS, q_isB, q_notB, q_isN, q_notN, q_truB, q_truI, q_truL, q_truT, q_truN, q_ixT, q_ixL, q_ixK, q_der, q_at0, q_at1, q_at2, q_at3, q_mkf, q_mkt, q_ixR, k_ixR, k_ix2, q_stR, k_stR, k_st2, q_slK, q_slL, fin_new, take_set, List.set_set, List.length_set, k_sqD0, ix30, ix31, ix32, b_lenL, b_lenT, b_lenK, b_int, b_intB, b_boolI, b_abs, b_max, b_min, b_tupL, b_tupT, b_gcd, b_listL, b_listT, b_listK, b_all, b_any, b_sum, asBools, asInts, Option.map_some, Option.map_none, isiD, List.map_cons, List.map_nil, List.cons_append, List.nil_append, List.append_nil, List.length_cons, List.length_nil, List.getElem?_cons_zero, List.getElem?_cons_succ, List.set_cons_zero, List.set_cons_succ, List.replicate, List.replicate_zero, List.replicate_succ, List.take_length, List.take_succ_cons, Nat.sub_self, setAll, if_true, if_false, Bool.false_eq_true, Nat.reduceAdd, Nat.reduceSub, Nat.reduceLeDiff, Nat.reduceLT, permU, List.filterMap_cons, List.filterMap_nil, wipeE, q1, q2, q_mulG _ _ (ml _)]⟩
    rw [this, ← add_range, List.map_map]
    rfl
  have l1 : xs.length + (max xs.length ys.length - xs.length) ≤ 16777216 := by omega
  have l2 : ys.length + (max xs.length ys.length - ys.length) ≤ 16777216 := by omega
  have k1 : -(2 ^ 62 : Int) ≤ ((max xs.length ys.length : Nat) : Int) ∧ ((max xs.length ys.length : Nat) : Int) < 2 ^ 62 := by omega
  have p1 := fun S => q_pad S (l := xs.length) (m := max xs.length ys.length) (by omega) (by omega)
  have p2 := fun S => q_pad S (l := ys.length) (m := max xs.length ys.length) (by omega) (by omega)
  have l3 : max xs.length ys.length < 16777216 := by omega
  rw [call_at t_22 ⟨rfl, by decide⟩]
  simp only [c_22, i_zip3, k_z3, k_z3b, k_z3c, z3_cons, z3_nil, k_enT, k_o1r, e_op1, e_op2, e_comp2, k_o1, k_o2, k_o2b, k_db, k_db2, k_dbT, k_dbI1, k_dbI0, k_db1, k_dbN, k_dbM, d_nil, d_cons, i_enum, i_zip, i_rev, k_enL, k_zi, k_ziL, k_ziT, k_rvL, k_rvT, e_var, k_var, x_aug, k_au, k_me, e_con, e_bin, e_neg, e_not, e_and, e_or, e_cmp, e_cmp2, e_ite, e_call, e_callk, e_blt, e_isi, e_idx, e_sl, e_tup, e_lst, e_comp, e_meth, es_nil, es_cons, if_nil, if_cons, o_none, o_some, i_ex, i_r1, i_r2, g_name, g_sub, g_tup, g_tupL, gs_nil, gs_cons, x_asg, x_par, x_ex, x_ret, x_ifs, x_for, x_whl, x_pass, x_brk, x_cont, xs_nil, xs_cons, k_bin, k_bin2, k_neg, k_not, k_not2, k_and, k_and1, k_and0, k_or, k_or1, k_or0, k_cmp, k_cmp2, k_cmp3, k_c2, k_c2b, k_c2t, k_c2f, k_ite, k_ite1, k_ite0, k_call, k_ck, k_ck2, k_blt, k_isi, k_idx, k_idx2, k_sl, k_sl2, k_sl3, k_tup, k_tup2, k_lst, k_lst2, f_nil, f_cons, f_d, k_fz, k_fz2, k_comp, k_comp2, k_me2, k_es, k_es2, k_if, k_if1, k_if0, k_o, k_iL, k_iT, k_iK, k_r1, k_r2, k_r2b, k_sb, k_sb2, k_sb3, k_ts, k_as, k_as2, k_par, k_aug, k_aug2, k_ex, k_ret1, k_ret0, k_ret2, k_ifs, k_ifs1, k_ifs0, k_for, k_fo, k_foN, k_foC, k_foB, k_foR, k_sqN, k_sqC, k_sqB, k_sqR, k_fin, fin_d, fin_nx, c_nil, c_cons, k_cs, k_cs1, k_cs0, k_cs3, k_cs4, k_cs5, fo_nil, fo_cons, sizeL, evT, rb_ok, rb_no, q_add, q_sub, q_cmp, q_lt, q_le, q_gt, q_ge, q_eqI, q_neI, q_eqS, q_neS, q_isB, q_notB, q_isN, q_notN, q_truB, q_truI, q_truL, q_truT, q_truN, q_ixT, q_ixL, q_ixK, q_der, q_at0, q_at1, q_at2, q_at3, q_mkf, q_mkt, q_ixR, k_ixR, k_ix2, q_stR, k_stR, k_st2, q_slK, q_slL, fin_new, take_set, List.set_set, List.length_set, k_sqD0, ix30, ix31, ix32, b_lenL, b_lenT, b_lenK, b_int, b_intB, b_boolI, b_abs, b_max, b_min, b_tupL, b_tupT, b_gcd, b_listL, b_listT, b_listK, b_all, b_any, b_sum, asBools, asInts, Option.map_some, Option.map_none, isiD, List.map_cons, List.map_nil, List.cons_append, List.nil_append, List.append_nil, List.length_cons, List.length_nil, List.getElem?_cons_zero, List.getElem?_cons_succ, List.set_cons_zero, List.set_cons_succ, List.replicate, List.replicate_zero, List.replicate_succ, List.take_length, List.take_succ_cons, Nat.sub_self, setAll, if_true, if_false, Bool.false_eq_true, Nat.reduceAdd, Nat.reduceSub, Nat.reduceLeDiff, Nat.reduceLT, permU, List.filterMap_cons, List.filterMap_nil, wipeE, rw_len, rw_list, max_len, p1, p2, q_cat, List.length_map, List.length_replicate, l1, l2, pad_map, k1, and_self, range_ints, List.length_range, l3, c, e3, sumL]
theorem i_times (n : Nat) {j : Nat} (t u : Bool) (xs ys : List Int) {a : Nat} {x : Int} (hx : xs[a]? = some x) : ∀ (m b : Nat) (acc : List Int) (S : Sto) (o4 : Option U), b + m = ys.length → S[j]? = some (some (acc.map PyData.int)) → a + ys.length ≤ acc.length → (∀ y ∈ ys, mulOk x y = true) →
    ∃ p4, forE (call T n) (.name 4) c_23_b0 [] ((List.range' b m).map fun (k : Nat) => PyData.int (k : Int)) [some (.d (rwD t xs)), some (.d (rwD u ys)), some (.r j), some (.d (.int (a : Int))), o4] S = .ok (.nx [some (.d (rwD t xs)), some (.d (rwD u ys)), some (.r j), some (.d (.int (a : Int))), p4]) (S.set j (some ((rowL x acc (a + b) (ys.drop b)).map PyData.int)))
  | 0, b, acc, S, o4, hb, hS, _, _ => ⟨o4, by rw [List.drop_eq_nil_of_le (by omega), rowL, set_same hS, List.range'_zero, List.map_nil, fo_nil]⟩
  | m + 1, b, acc, S, o4, hb, hS, hl, hm => by
    have hj : j < S.length := (List.getElem?_eq_some_iff.mp hS).1
    have bl : b < ys.length := by omega
    have hy : ys[b]? = some ys[b] := List.getElem?_eq_getElem bl
    have lt : a + b < acc.length := by omega
    have ix := r_idx (i := ((a + b : Nat) : Int)) hS (at_nat acc lt)
    have ml := hm ys[b] (List.getElem_mem bl)
    have cast : (a : Int) + (b : Int) = ((a + b : Nat) : Int) := by omega
    have iq : ixN acc.length ((a + b : Nat) : Int) = some (a + b) := ix_nat lt
    have r1 := fun S => rw_ix t xs hx S
    have r2 := fun S => rw_ix u ys hy S
    obtain ⟨p4, ih⟩ := i_times n t u xs ys hx m (b + 1) (add1 acc (a + b) (x * ys[b])) (S.set j (some ((add1 acc (a + b) (x * ys[b])).map PyData.int))) (some (.d (.int (b : Int)))) (by omega) (get_set S _ hj) (by rw [add1_len]; exact hl) hm
    rw [List.set_set, show a + (b + 1) = a + b + 1 by omega] at ih
    refine ⟨p4, ?_⟩
    rw [List.drop_eq_getElem_cons bl, rowL, List.range'_succ, List.map_cons]
    simp only [fo_cons]
    simp only [c_23_b0, i_zip3, k_z3, k_z3b, k_z3c, z3_cons, z3_nil, k_enT, k_o1r, e_op1, e_op2, e_comp2, k_o1, k_o2, k_o2b, k_db, k_db2, k_dbT, k_dbI1, k_dbI0, k_db1, k_dbN, k_dbM, d_nil, d_cons, i_enum, i_zip, i_rev, k_enL, k_zi, k_ziL, k_ziT, k_rvL, k_rvT, e_var, k_var, x_aug, k_au, k_me, e_con, e_bin, e_neg, e_not, e_and, e_or, e_cmp, e_cmp2, e_ite, e_call, e_callk, e_blt, e_isi, e_idx, e_sl, e_tup, e_lst, e_comp, e_meth, es_nil, es_cons, if_nil, if_cons, o_none, o_some, i_ex, i_r1, i_r2, g_name, g_sub, g_tup, g_tupL, gs_nil, gs_cons, x_asg, x_par, x_ex, x_ret, x_ifs, x_for, x_whl, x_pass, x_brk, x_cont, xs_nil, xs_cons, k_bin, k_bin2, k_neg, k_not, k_not2, k_and, k_and1, k_and0, k_or, k_or1, k_or0, k_cmp, k_cmp2, k_cmp3, k_c2, k_c2b, k_c2t, k_c2f, k_ite, k_ite1, k_ite0, k_call, k_ck, k_ck2, k_blt, k_isi, k_idx, k_idx2, k_sl, k_sl2, k_sl3, k_tup, k_tup2, k_lst, k_lst2, f_nil, f_cons, f_d, k_fz, k_fz2, k_comp, k_comp2, k_me2, k_es, k_es2, k_if, k_if1, k_if0, k_o, k_iL, k_iT, k_iK, k_r1, k_r2, k_r2b, k_sb, k_sb2, k_sb3, k_ts, k_as, k_as2, k_par, k_aug, k_aug2, k_ex, k_ret1, k_ret0, k_ret2, k_ifs, k_ifs1, k_ifs0, k_for, k_fo, k_foN, k_foC, k_foB, k_foR, k_sqN, k_sqC, k_sqB, k_sqR, k_fin, fin_d, fin_nx, c_nil, c_cons, k_cs, k_cs1, k_cs0, k_cs3, k_cs4, k_cs5, fo_nil, fo_cons, sizeL, evT, rb_ok, rb_no, q_add, q_sub, q_cmp, q_lt, q_le, q_gt, q_ge, q_eqI, q_neI, q_eqS, q_neS, q_isB, q_notB, q_isN, q_notN, q_truB, q_truI, q_truL, q_truT, q_truN, q_ixT, q_ixL, q_ixK, q_der, q_at0, q_at1, q_at2, q_at3, q_mkf, q_mkt, q_ixR, k_ixR, k_ix2, q_stR, k_stR, k_st2, q_slK, q_slL, fin_new, take_set, List.set_set, List.length_set, k_sqD0, ix30, ix31, ix32, b_lenL, b_lenT, b_lenK, b_int, b_intB, b_boolI, b_abs, b_max, b_min, b_tupL, b_tupT, b_gcd, b_listL, b_listT, b_listK, b_all, b_any, b_sum, asBools, asInts, Option.map_some, Option.map_none, isiD, List.map_cons, List.map_nil, List.cons_append, List.nil_append, List.append_nil, List.length_cons, List.length_nil, List.getElem?_cons_zero, List.getElem?_cons_succ, List.set_cons_zero, List.set_cons_succ, List.replicate, List.replicate_zero, List.replicate_succ, List.take_length, List.take_succ_cons, Nat.sub_self, setAll, if_true, if_false, Bool.false_eq_true, Nat.reduceAdd, Nat.reduceSub, Nat.reduceLeDiff, Nat.reduceLT, permU, List.filterMap_cons, List.filterMap_nil, wipeE, cast, ix, r1, r2, q_mulG _ _ ml, hS, List.length_map, iq, set_add1]
    exact ih
theorem o_times (n : Nat) {j : Nat} (t u : Bool) (xs ys : List Int) (hy : ys.length ≤ 1000) : ∀ (m a : Nat) (acc : List Int) (S : Sto) (o3 o4 : Option U), a + m = xs.length → S[j]? = some (some (acc.map PyData.int)) → xs.length + ys.length ≤ acc.length → (∀ x ∈ xs, ∀ y ∈ ys, mulOk x y = true) →
    ∃ p3 p4, forE (call T n) (.name 3) c_23_b1 [] ((List.range' a m).map fun (k : Nat) => PyData.int (k : Int)) [some (.d (rwD t xs)), some (.d (rwD u ys)), some (.r j), o3, o4] S = .ok (.nx [some (.d (rwD t xs)), some (.d (rwD u ys)), some (.r j), p3, p4]) (S.set j (some ((mulA ys acc a (xs.drop a)).map PyData.int)))
  | 0, a, acc, S, o3, o4, hb, hS, _, _ => ⟨o3, o4, by rw [List.drop_eq_nil_of_le (by omega), mulA, set_same hS, List.range'_zero, List.map_nil, fo_nil]⟩
  | m + 1, a, acc, S, o3, o4, hb, hS, hl, hm => by
    have hj : j < S.length := (List.getElem?_eq_some_iff.mp hS).1
    have al : a < xs.length := by omega
    have hx : xs[a]? = some xs[a] := List.getElem?_eq_getElem al
    obtain ⟨q4, e1⟩ := i_times (T := T) n t u xs ys hx ys.length 0 acc S o4 (by omega) hS (by omega) (hm xs[a] (List.getElem_mem al))
    rw [List.drop_zero, Nat.add_zero, ← List.range_eq_range'] at e1
    obtain ⟨p3, p4, ih⟩ := o_times n t u xs ys hy m (a + 1) (rowL xs[a] acc a ys) (S.set j (some ((rowL xs[a] acc a ys).map PyData.int))) (some (.d (.int (a : Int)))) q4 (by omega) (get_set S _ hj) (by rw [rowL_len]; exact hl) hm
    rw [List.set_set] at ih
    have k1 : -(2 ^ 62 : Int) ≤ (ys.length : Int) ∧ (ys.length : Int) < 2 ^ 62 := by omega
    refine ⟨p3, p4, ?_⟩
    rw [List.drop_eq_getElem_cons al, mulA, List.range'_succ, List.map_cons]
    simp only [fo_cons]
    simp only [c_23_b1, g_name, List.set_cons_zero, List.set_cons_succ, k_fo, xs_cons, x_for, i_r1, e_blt, es_cons, es_nil, e_var, k_var, List.getElem?_cons_zero, List.getElem?_cons_succ, k_es, k_es2, k_blt, rw_len, k_r1, k1, and_self, if_true, range_ints, k_for, e1, k_sqN, xs_nil, k_foN]
    exact ih
theorem s__law_times (n : Nat) (t u : Bool) (xs ys : List Int) (hx : xs.length ≤ 1000) (hy : ys.length ≤ 1000) (hm : ∀ x ∈ xs, ∀ y ∈ ys, mulOk x y = true) (S : Sto) : call T (n + 2) 23 [.d (rwD t xs), .d (rwD u ys)] S = .ok (.d (.list ((mulL xs ys).map PyData.int))) S := by
  have hS : (S ++ [some ((List.replicate (xs.length + ys.length) (0 : Int)).map PyData.int)])[S.length]? = some (some ((List.replicate (xs.length + ys.length) (0 : Int)).map PyData.int)) := by simp
  obtain ⟨p3, p4, e⟩ := o_times (T := T) (n + 1) t u xs ys hy xs.length 0 (List.replicate (xs.length + ys.length) 0) _ none none (by omega) hS (by simp) hm
  rw [List.drop_zero, ← List.range_eq_range'] at e
  have st : ∀ c, (S ++ [some ((List.replicate (xs.length + ys.length) (0 : Int)).map PyData.int)]).set S.length c = S ++ [c] := fun c => by
    rw [List.set_append_right _ _ (Nat.le_refl _), Nat.sub_self]
    rfl
  rw [st] at e
  have gt : (S ++ [some ((mulA ys (List.replicate (xs.length + ys.length) 0) 0 xs).map PyData.int)])[S.length]? = some (some ((mulA ys (List.replicate (xs.length + ys.length) 0) 0 xs).map PyData.int)) := by simp
  have e2 := s__law_trim_own (T := T) n (mulA ys (List.replicate (xs.length + ys.length) 0) 0 xs) (by rw [mulA_len]; simp; omega) gt
  have cast : (xs.length : Int) + (ys.length : Int) = ((xs.length + ys.length : Nat) : Int) := by omega
  have tk : ∀ c : Option (List D), (S ++ [c]).take S.length = S := fun c => by simp
  have k1 : -(2 ^ 62 : Int) ≤ (xs.length : Int) ∧ (xs.length : Int) < 2 ^ 62 := by omega
  rw [call_at t_23 ⟨rfl, by decide⟩]
  simp only [c_23, xs_cons, x_asg, e_bin, e_lst, es_cons, es_nil, e_con, k_es, k_es2, k_lst, f_cons, f_nil, f_d, k_fz, k_fz2, k_lst2, List.length_cons, List.length_nil, Nat.reduceAdd, Nat.reduceSub, Nat.reduceLeDiff, sizeL, if_true, q_mkf, k_bin, e_blt, e_var, k_var, List.getElem?_cons_zero, List.getElem?_cons_succ, List.map_cons, List.map_nil, List.cons_append, List.nil_append, List.replicate, k_blt, rw_len, List.length_map, k_bin2, q_add, cast, q_zeros S (show xs.length + ys.length ≤ 10000 by omega), k_as, k_as2, g_name, List.set_cons_zero, List.set_cons_succ, k_sqN, x_for, i_r1, k_r1, k1, and_self, range_ints, k_for, e, x_ret, e_call, k_call, e2, k_ret1, f_d, k_ret2, k_sqR, k_fin, fin_d, tk, mulL]
theorem f__law_value (t : Nat) (S : Sto) (x0 : Option U) {b c L : Nat} {n m : Int} (hn : Sm c n) (hm : Sm c m) (hL : b + L * (c + 2) ≤ 400000) : ∀ (l suf : List Int) (o : Option U), (∀ y ∈ l, Sm b y) → (∀ y ∈ suf, Sm b y) → l.length + suf.length ≤ L →
    ∃ o', forE (call T t) (.name 5) c_24_b0 [] (l.map PyData.int) [x0, some (.d (.int n)), some (.d (.int m)), some (.d (.int (nu suf n m))), some (.d (.int (m ^ suf.length))), o] S = .ok (.nx [x0, some (.d (.int n)), some (.d (.int m)), some (.d (.int (nu (l.reverse ++ suf) n m))), some (.d (.int (m ^ (l.reverse ++ suf).length))), o']) S
  | [], suf, o, _, _, _ => ⟨o, by simp only [List.map_nil, fo_nil, List.reverse_nil, List.nil_append]⟩
  | x :: l, suf, o, h1, h2, h3 => by
    obtain ⟨o', e⟩ := f__law_value t S x0 hn hm hL l (x :: suf) (some (.d (.int x))) (fun y hy => h1 y (List.mem_cons_of_mem _ hy)) (fun y hy => by
      rcases List.mem_cons.mp hy with rfl | hy
      · exact h1 _ List.mem_cons_self
      · exact h2 y hy) (by simp only [List.length_cons] at *; omega)
    have sl : suf.length + 1 ≤ L := by simp only [List.length_cons] at h3; omega
    have sL : (suf.length + 1) * (c + 2) ≤ L * (c + 2) := Nat.mul_le_mul_right _ sl
    have sE : (suf.length + 1) * (c + 2) = suf.length * (c + 2) + (c + 2) := Nat.succ_mul _ _
    have n1 := nu_sm hn hm h2
    have p1 := pow_sm hm suf.length
    have hx := h1 x List.mem_cons_self
    have cs : c * suf.length ≤ suf.length * (c + 2) := by rw [Nat.mul_comm c]; exact Nat.mul_le_mul_left _ (by omega)
    have l1 : mulOk (nu suf n m) n = true := (MO.mk n1 hn (by omega)).ok
    have l2 : mulOk x (m ^ suf.length) = true := (MO.mk hx p1 (by omega)).ok
    have l3 : mulOk (m ^ suf.length) m = true := (MO.mk p1 hm (by omega)).ok
    refine ⟨o', ?_⟩
    rw [List.reverse_cons, List.append_assoc, List.singleton_append]
    rw [nu, List.length_cons, Int.pow_succ] at e
    simp only [List.map_cons, fo_cons]
    simp only [c_24_b0, i_zip3, k_z3, k_z3b, k_z3c, z3_cons, z3_nil, k_enT, k_o1r, e_op1, e_op2, e_comp2, k_o1, k_o2, k_o2b, k_db, k_db2, k_dbT, k_dbI1, k_dbI0, k_db1, k_dbN, k_dbM, d_nil, d_cons, i_enum, i_zip, i_rev, k_enL, k_zi, k_ziL, k_ziT, k_rvL, k_rvT, e_var, k_var, x_aug, k_au, k_me, e_con, e_bin, e_neg, e_not, e_and, e_or, e_cmp, e_cmp2, e_ite, e_call, e_callk, e_blt, e_isi, e_idx, e_sl, e_tup, e_lst, e_comp, e_meth, es_nil, es_cons, if_nil, if_cons, o_none, o_some, i_ex, i_r1, i_r2, g_name, g_sub, g_tup, g_tupL, gs_nil, gs_cons, x_asg, x_par, x_ex, x_ret, x_ifs, x_for, x_whl, x_pass, x_brk, x_cont, xs_nil, xs_cons, k_bin, k_bin2, k_neg, k_not, k_not2, k_and, k_and1, k_and0, k_or, k_or1, k_or0, k_cmp, k_cmp2, k_cmp3, k_c2, k_c2b, k_c2t, k_c2f, k_ite, k_ite1, k_ite0, k_call, k_ck, k_ck2, k_blt, k_isi, k_idx, k_idx2, k_sl, k_sl2, k_sl3, k_tup, k_tup2, k_lst, k_lst2, f_nil, f_cons, f_d, k_fz, k_fz2, k_comp, k_comp2, k_me2, k_es, k_es2, k_if, k_if1, k_if0, k_o, k_iL, k_iT, k_iK, k_r1, k_r2, k_r2b, k_sb, k_sb2, k_sb3, k_ts, k_as, k_as2, k_par, k_aug, k_aug2, k_ex, k_ret1, k_ret0, k_ret2, k_ifs, k_ifs1, k_ifs0, k_for, k_fo, k_foN, k_foC, k_foB, k_foR, k_sqN, k_sqC, k_sqB, k_sqR, k_fin, fin_d, fin_nx, c_nil, c_cons, k_cs, k_cs1, k_cs0, k_cs3, k_cs4, k_cs5, fo_nil, fo_cons, sizeL, evT, rb_ok, rb_no, q_add, q_sub, q_cmp, q_lt, q_le, q_gt, q_ge, q_eqI, q_neI, q_eqS, q_neS, q_isB, q_notB, q_isN, q_notN, q_truB, q_truI, q_truL, q_truT, q_truN, q_ixT, q_ixL, q_ixK, q_der, q_at0, q_at1, q_at2, q_at3, q_mkf, q_mkt, q_ixR, k_ixR, k_ix2, q_stR, k_stR, k_st2, q_slK, q_slL, fin_new, take_set, List.set_set, List.length_set, k_sqD0, ix30, ix31, ix32, b_lenL, b_lenT, b_lenK, b_int, b_intB, b_boolI, b_abs, b_max, b_min, b_tupL, b_tupT, b_gcd, b_listL, b_listT, b_listK, b_all, b_any, b_sum, asBools, asInts, Option.map_some, Option.map_none, isiD, List.map_cons, List.map_nil, List.cons_append, List.nil_append, List.append_nil, List.length_cons, List.length_nil, List.getElem?_cons_zero, List.getElem?_cons_succ, List.set_cons_zero, List.set_cons_succ, List.replicate, List.replicate_zero, List.replicate_succ, List.take_length, List.take_succ_cons, Nat.sub_self, setAll, if_true, if_false, Bool.false_eq_true, Nat.reduceAdd, Nat.reduceSub, Nat.reduceLeDiff, Nat.reduceLT, permU, List.filterMap_cons, List.filterMap_nil, wipeE, q_mulG _ _ l1, q_mulG _ _ l2, q_mulG _ _ l3]
    exact e
theorem s__law_value (t : Nat) (xs : List Int) {b c : Nat} {n m : Int} (hn : Sm c n) (hm : Sm c m) (hx : ∀ y ∈ xs, Sm b y) (hL : b + xs.length * (c + 2) ≤ 400000) (S : Sto) : call T (t + 1) 24 [.d (.list (xs.map PyData.int)), .d (.int n), .d (.int m)] S = .ok (.d (.int (nu xs n m))) S := by
  obtain ⟨o', e⟩ := f__law_value (T := T) t S (some (.d (.list (xs.map PyData.int)))) hn hm (L := xs.length) hL xs.reverse [] none (fun y hy => hx y (List.mem_reverse.mp hy)) (fun y hy => by cases hy) (by simp)
  rw [List.reverse_reverse, List.append_nil, List.map_reverse] at e
  simp only [nu, List.length_nil, Int.pow_zero] at e
  rw [call_at t_24 ⟨rfl, by decide⟩]
  simp only [c_24, i_zip3, k_z3, k_z3b, k_z3c, z3_cons, z3_nil, k_enT, k_o1r, e_op1, e_op2, e_comp2, k_o1, k_o2, k_o2b, k_db, k_db2, k_dbT, k_dbI1, k_dbI0, k_db1, k_dbN, k_dbM, d_nil, d_cons, i_enum, i_zip, i_rev, k_enL, k_zi, k_ziL, k_ziT, k_rvL, k_rvT, e_var, k_var, x_aug, k_au, k_me, e_con, e_bin, e_neg, e_not, e_and, e_or, e_cmp, e_cmp2, e_ite, e_call, e_callk, e_blt, e_isi, e_idx, e_sl, e_tup, e_lst, e_comp, e_meth, es_nil, es_cons, if_nil, if_cons, o_none, o_some, i_ex, i_r1, i_r2, g_name, g_sub, g_tup, g_tupL, gs_nil, gs_cons, x_asg, x_par, x_ex, x_ret, x_ifs, x_for, x_whl, x_pass, x_brk, x_cont, xs_nil, xs_cons, k_bin, k_bin2, k_neg, k_not, k_not2, k_and, k_and1, k_and0, k_or, k_or1, k_or0, k_cmp, k_cmp2, k_cmp3, k_c2, k_c2b, k_c2t, k_c2f, k_ite, k_ite1, k_ite0, k_call, k_ck, k_ck2, k_blt, k_isi, k_idx, k_idx2, k_sl, k_sl2, k_sl3, k_tup, k_tup2, k_lst, k_lst2, f_nil, f_cons, f_d, k_fz, k_fz2, k_comp, k_comp2, k_me2, k_es, k_es2, k_if, k_if1, k_if0, k_o, k_iL, k_iT, k_iK, k_r1, k_r2, k_r2b, k_sb, k_sb2, k_sb3, k_ts, k_as, k_as2, k_par, k_aug, k_aug2, k_ex, k_ret1, k_ret0, k_ret2, k_ifs, k_ifs1, k_ifs0, k_for, k_fo, k_foN, k_foC, k_foB, k_foR, k_sqN, k_sqC, k_sqB, k_sqR, k_fin, fin_d, fin_nx, c_nil, c_cons, k_cs, k_cs1, k_cs0, k_cs3, k_cs4, k_cs5, fo_nil, fo_cons, sizeL, evT, rb_ok, rb_no, q_add, q_sub, q_cmp, q_lt, q_le, q_gt, q_ge, q_eqI, q_neI, q_eqS, q_neS, q_isB, q_notB, q_isN, q_notN, q_truB, q_truI, q_truL, q_truT, q_truN, q_ixT, q_ixL, q_ixK, q_der, q_at0, q_at1, q_at2, q_at3, q_mkf, q_mkt, q_ixR, k_ixR, k_ix2, q_stR, k_stR, k_st2, q_slK, q_slL, fin_new, take_set, List.set_set, List.length_set, k_sqD0, ix30, ix31, ix32, b_lenL, b_lenT, b_lenK, b_int, b_intB, b_boolI, b_abs, b_max, b_min, b_tupL, b_tupT, b_gcd, b_listL, b_listT, b_listK, b_all, b_any, b_sum, asBools, asInts, Option.map_some, Option.map_none, isiD, List.map_cons, List.map_nil, List.cons_append, List.nil_append, List.append_nil, List.length_cons, List.length_nil, List.getElem?_cons_zero, List.getElem?_cons_succ, List.set_cons_zero, List.set_cons_succ, List.replicate, List.replicate_zero, List.replicate_succ, List.take_length, List.take_succ_cons, Nat.sub_self, setAll, if_true, if_false, Bool.false_eq_true, Nat.reduceAdd, Nat.reduceSub, Nat.reduceLeDiff, Nat.reduceLT, permU, List.filterMap_cons, List.filterMap_nil, wipeE, e]
theorem f__law_row (n : Nat) {j : Nat} {m : Int} (hm : 0 ≤ m) {k : Nat} (hs : Sm k m) (hk : 4 ≤ k) (hk2 : k ≤ 6000) (o2 o3 : Option U) : ∀ (l : List Nat) (S : Sto) (a b c : Int) (o4 : Option U), S[j]? = some (some [.int a, .int b, .int c]) →
    ∃ (zs : List Int) (a' b' c' : Int), zs.length = l.length ∧ (∀ z ∈ zs, Sm k z) ∧ compE (call T (n + 2)) [some (.r j), some (.d (.int m)), o2, o3, o4] [4] (.name 4) .nil (.call 17 (.cons (.var 0) (.cons (.lst false (.cons (.con (.int 0)) (.cons (.con (.int 1)) (.cons (.bin false .Sub (.con (.int 0)) (.con (.int 1))) (.cons (.call 18 (.cons (.var 0) (.cons (.con (.int 9)) .nil))) (.cons (.call 18 (.cons (.var 0) (.cons (.var 1) .nil))) .nil)))))) .nil))) [] (l.map fun (k : Nat) => PyData.int (k : Int)) S = .ok (zs.map PyData.int) (S.set j (some [.int a', .int b', .int c']))
  | [], S, a, b, c, o4, hS => ⟨[], a, b, c, rfl, (fun z hz => by cases hz), by rw [List.map_nil, List.map_nil, c_nil, set_same hS]⟩
  | i :: l, S, a, b, c, o4, hS => by
    have hj : j < S.length := (List.getElem?_eq_some_iff.mp hS).1
    obtain ⟨u, a1, b1, c1, u0, u1, e1⟩ := s__law_whole (T := T) n 9 hS (by decide) (Sm.mono (b := 64) (by unfold Sm; decide) (by decide))
    obtain ⟨w, a2, b2, c2, w0, w1, e2⟩ := s__law_whole (T := T) n m (gw S hj a1 b1 c1) hm (hs.mono (by omega))
    rw [List.set_set] at e2
    obtain ⟨r, d, a3, b3, c3, hd, e3⟩ := s__law_some (T := T) n [.int 0, .int 1, .int (0 - 1), .int u, .int w] (gw S hj a2 b2 c2) (by simp) (by simp)
    rw [List.set_set] at e3
    have p16 : (2 : Nat) ^ 4 ≤ 2 ^ k := Nat.pow_le_pow_right (by decide) hk
    obtain ⟨z, rfl, sz⟩ : ∃ z : Int, d = .int z ∧ Sm k z := by
      have hm := List.mem_of_getElem? hd
      simp only [List.mem_cons, List.not_mem_nil, or_false] at hm
      rcases hm with rfl | rfl | rfl | rfl | rfl <;> refine ⟨_, rfl, ?_⟩ <;> unfold Sm at * <;> omega
    obtain ⟨zs, a4, b4, c4, hl, hz, ih⟩ := f__law_row n hm hs hk hk2 o2 o3 l (S.set j (some [.int a3, .int b3, .int c3])) a3 b3 c3 o4 (gw S hj a3 b3 c3)
    rw [List.set_set] at ih
    refine ⟨z :: zs, a4, b4, c4, by simp [hl], fun y hy => ?_, ?_⟩
    · rcases List.mem_cons.mp hy with rfl | hy
      · exact sz
      · exact hz y hy
    · simp only [List.map_cons, c_cons]
      simp only [i_zip3, k_z3, k_z3b, k_z3c, z3_cons, z3_nil, k_enT, k_o1r, e_op1, e_op2, e_comp2, k_o1, k_o2, k_o2b, k_db, k_db2, k_dbT, k_dbI1, k_dbI0, k_db1, k_dbN, k_dbM, d_nil, d_cons, i_enum, i_zip, i_rev, k_enL, k_zi, k_ziL, k_ziT, k_rvL, k_rvT, e_var, k_var, x_aug, k_au, k_me, e_con, e_bin, e_neg, e_not, e_and, e_or, e_cmp, e_cmp2, e_ite, e_call, e_callk, e_blt, e_isi, e_idx, e_sl, e_tup, e_lst, e_comp, e_meth, es_nil, es_cons, if_nil, if_cons, o_none, o_some, i_ex, i_r1, i_r2, g_name, g_sub, g_tup, g_tupL, gs_nil, gs_cons, x_asg, x_par, x_ex, x_ret, x_ifs, x_for, x_whl, x_pass, x_brk, x_cont, xs_nil, xs_cons, k_bin, k_bin2, k_neg, k_not, k_not2, k_and, k_and1, k_and0, k_or, k_or1, k_or0, k_cmp, k_cmp2, k_cmp3, k_c2, k_c2b, k_c2t, k_c2f, k_ite, k_ite1, k_ite0, k_call, k_ck, k_ck2, k_blt, k_isi, k_idx, k_idx2, k_sl, k_sl2, k_sl3, k_tup, k_tup2, k_lst, k_lst2, f_nil, f_cons, f_d, k_fz, k_fz2, k_comp, k_comp2, k_me2, k_es, k_es2, k_if, k_if1, k_if0, k_o, k_iL, k_iT, k_iK, k_r1, k_r2, k_r2b, k_sb, k_sb2, k_sb3, k_ts, k_as, k_as2, k_par, k_aug, k_aug2, k_ex, k_ret1, k_ret0, k_ret2, k_ifs, k_ifs1, k_ifs0, k_for, k_fo, k_foN, k_foC, k_foB, k_foR, k_sqN, k_sqC, k_sqB, k_sqR, k_fin, fin_d, fin_nx, c_nil, c_cons, k_cs, k_cs1, k_cs0, k_cs3, k_cs4, k_cs5, fo_nil, fo_cons, sizeL, evT, rb_ok, rb_no, q_add, q_sub, q_cmp, q_lt, q_le, q_gt, q_ge, q_eqI, q_neI, q_eqS, q_neS, q_isB, q_notB, q_isN, q_notN, q_truB, q_truI, q_truL, q_truT, q_truN, q_ixT, q_ixL, q_ixK, q_der, q_at0, q_at1, q_at2, q_at3, q_mkf, q_mkt, q_ixR, k_ixR, k_ix2, q_stR, k_stR, k_st2, q_slK, q_slL, fin_new, take_set, List.set_set, List.length_set, k_sqD0, ix30, ix31, ix32, b_lenL, b_lenT, b_lenK, b_int, b_intB, b_boolI, b_abs, b_max, b_min, b_tupL, b_tupT, b_gcd, b_listL, b_listT, b_listK, b_all, b_any, b_sum, asBools, asInts, Option.map_some, Option.map_none, isiD, List.map_cons, List.map_nil, List.cons_append, List.nil_append, List.append_nil, List.length_cons, List.length_nil, List.getElem?_cons_zero, List.getElem?_cons_succ, List.set_cons_zero, List.set_cons_succ, List.replicate, List.replicate_zero, List.replicate_succ, List.take_length, List.take_succ_cons, Nat.sub_self, setAll, if_true, if_false, Bool.false_eq_true, Nat.reduceAdd, Nat.reduceSub, Nat.reduceLeDiff, Nat.reduceLT, permU, List.filterMap_cons, List.filterMap_nil, wipeE, e1, e2, e3]
      rw [ih]
      simp only [k_cs5]
theorem s__law_row (n : Nat) {S : Sto} {j : Nat} {a b c : Int} (m d : Int) (hS : S[j]? = some (some [.int a, .int b, .int c])) (hm : 0 ≤ m) {k : Nat} (hs : Sm k m) (hk : 4 ≤ k) (hk2 : k ≤ 6000) (hd : 0 ≤ d ∧ d ≤ 100) :
    ∃ (zs : List Int) (a' b' c' : Int), (zs.length : Int) ≤ d ∧ (∀ z ∈ zs, Sm k z) ∧ trimL zs = zs ∧ call T (n + 3) 25 [.r j, .d (.int m), .d (.int d)] S = .ok (.d (.list (zs.map PyData.int))) (S.set j (some [.int a', .int b', .int c'])) := by
  have hj : j < S.length := (List.getElem?_eq_some_iff.mp hS).1
  obtain ⟨r, a1, b1, c1, r0, r1, e1⟩ := s__law_take (T := T) (n + 1) (d + 1) hS (by omega) (Sm.mono (b := 64) (by unfold Sm; omega) (by decide))
  obtain ⟨q, rfl⟩ : ∃ q : Nat, r = q := ⟨r.toNat, by omega⟩
  obtain ⟨zs, a2, b2, c2, hl, hz, e2⟩ := f__law_row (T := T) n hm hs hk hk2 (some (.d (.int d))) none (List.range q) (S.set j (some [.int a1, .int b1, .int c1])) a1 b1 c1 none (gw S hj a1 b1 c1)
  rw [List.set_set] at e2
  rw [List.length_range] at hl
  have e3 := fun S => s__law_trim (T := T) (n + 1) zs (by omega) S
  have tl := trim_le zs
  have k1 : -(2 ^ 62 : Int) ≤ (q : Int) ∧ (q : Int) < 2 ^ 62 := by omega
  have l1 : q < 16777216 := by omega
  refine ⟨trimL zs, a2, b2, c2, by omega, fun z h => hz z (trim_mem h), trim_idem zs, ?_⟩
  rw [call_at t_25 ⟨rfl, by decide⟩]
  simp only [c_25, i_zip3, k_z3, k_z3b, k_z3c, z3_cons, z3_nil, k_enT, k_o1r, e_op1, e_op2, e_comp2, k_o1, k_o2, k_o2b, k_db, k_db2, k_dbT, k_dbI1, k_dbI0, k_db1, k_dbN, k_dbM, d_nil, d_cons, i_enum, i_zip, i_rev, k_enL, k_zi, k_ziL, k_ziT, k_rvL, k_rvT, e_var, k_var, x_aug, k_au, k_me, e_con, e_bin, e_neg, e_not, e_and, e_or, e_cmp, e_cmp2, e_ite, e_call, e_callk, e_blt, e_isi, e_idx, e_sl, e_tup, e_lst, e_comp, e_meth, es_nil, es_cons, if_nil, if_cons, o_none, o_some, i_ex, i_r1, i_r2, g_name, g_sub, g_tup, g_tupL, gs_nil, gs_cons, x_asg, x_par, x_ex, x_ret, x_ifs, x_for, x_whl, x_pass, x_brk, x_cont, xs_nil, xs_cons, k_bin, k_bin2, k_neg, k_not, k_not2, k_and, k_and1, k_and0, k_or, k_or1, k_or0, k_cmp, k_cmp2, k_cmp3, k_c2, k_c2b, k_c2t, k_c2f, k_ite, k_ite1, k_ite0, k_call, k_ck, k_ck2, k_blt, k_isi, k_idx, k_idx2, k_sl, k_sl2, k_sl3, k_tup, k_tup2, k_lst, k_lst2, f_nil, f_cons, f_d, k_fz, k_fz2, k_comp, k_comp2, k_me2, k_es, k_es2, k_if, k_if1, k_if0, k_o, k_iL, k_iT, k_iK, k_r1, k_r2, k_r2b, k_sb, k_sb2, k_sb3, k_ts, k_as, k_as2, k_par, k_aug, k_aug2, k_ex, k_ret1, k_ret0, k_ret2, k_ifs, k_ifs1, k_ifs0, k_for, k_fo, k_foN, k_foC, k_foB, k_foR, k_sqN, k_sqC, k_sqB, k_sqR, k_fin, fin_d, fin_nx, c_nil, c_cons, k_cs, k_cs1, k_cs0, k_cs3, k_cs4, k_cs5, fo_nil, fo_cons, sizeL, evT, rb_ok, rb_no, q_add, q_sub, q_cmp, q_lt, q_le, q_gt, q_ge, q_eqI, q_neI, q_eqS, q_neS, q_isB, q_notB, q_isN, q_notN, q_truB, q_truI, q_truL, q_truT, q_truN, q_ixT, q_ixL, q_ixK, q_der, q_at0, q_at1, q_at2, q_at3, q_mkf, q_mkt, q_ixR, k_ixR, k_ix2, q_stR, k_stR, k_st2, q_slK, q_slL, fin_new, take_set, List.set_set, List.length_set, k_sqD0, ix30, ix31, ix32, b_lenL, b_lenT, b_lenK, b_int, b_intB, b_boolI, b_abs, b_max, b_min, b_tupL, b_tupT, b_gcd, b_listL, b_listT, b_listK, b_all, b_any, b_sum, asBools, asInts, Option.map_some, Option.map_none, isiD, List.map_cons, List.map_nil, List.cons_append, List.nil_append, List.append_nil, List.length_cons, List.length_nil, List.getElem?_cons_zero, List.getElem?_cons_succ, List.set_cons_zero, List.set_cons_succ, List.replicate, List.replicate_zero, List.replicate_succ, List.take_length, List.take_succ_cons, Nat.sub_self, setAll, if_true, if_false, Bool.false_eq_true, Nat.reduceAdd, Nat.reduceSub, Nat.reduceLeDiff, Nat.reduceLT, permU, List.filterMap_cons, List.filterMap_nil, wipeE, e1, k1, and_self, range_ints, List.length_map, List.length_range, l1, e2, e3]
theorem red_rat {a b : Int} (hb : 0 < b) {k : Nat} (ha : Sm k a) (hbs : Sm k b) : ∃ p q, redL [a, b] = [p, q] ∧ 0 < q ∧ gcL [p, q] = 1 ∧ Sm k p ∧ Sm k q ∧ Sm k (gcL [a, b]) ∧ ∃ g, 0 < g ∧ a = g * p ∧ b = g * q := by
  have h0 : gcL [a, b] ≠ 0 := fun e => by
    have := gcL_zero e b (by simp)
    omega
  have all : ∀ y ∈ [a, b], Sm k y := fun y hy => by
    simp only [List.mem_cons, List.not_mem_nil, or_false] at hy
    rcases hy with rfl | rfl <;> assumption
  obtain ⟨g1, g2, g3⟩ := red_spec h0
  have sm : ∀ x ∈ redL [a, b], Sm k x := fun x hx => red_sm h0 hx all
  obtain ⟨p, q, er⟩ : ∃ p q, redL [a, b] = [p, q] := ⟨_, _, rfl⟩
  rw [er] at g2 g3 sm
  simp only [List.map_cons, List.map_nil, List.cons.injEq, and_true] at g2
  refine ⟨p, q, er, ?_, g3, sm _ (by simp), sm _ (by simp), gcL_sm all, gcL [a, b], g1, g2.1, g2.2⟩
  have h := g2.2
  generalize gcL [a, b] = g at *
  rw [h] at hb
  exact Int.pos_of_mul_pos_right hb (by omega)
theorem s__law_free_ratio (n : Nat) {S : Sto} {j : Nat} {a b c : Int} (m : Int) (hS : S[j]? = some (some [.int a, .int b, .int c])) (hm : 0 < m) {k : Nat} (hs : Sm k m) (hk : k ≤ 6000) :
    ∃ p q a' b' c', 0 < q ∧ gcL [p, q] = 1 ∧ Sm k p ∧ Sm k q ∧ call T (n + 3) 26 [.r j, .d (.int m)] S = .ok (.d (.tuple [.int p, .int q])) (S.set j (some [.int a', .int b', .int c'])) := by
  have hj : j < S.length := (List.getElem?_eq_some_iff.mp hS).1
  obtain ⟨u, a1, b1, c1, u0, u1, e1⟩ := s__law_whole (T := T) n m hS (by omega) (hs.mono (by omega))
  obtain ⟨w, a2, b2, c2, w0, w1, e2⟩ := s__law_take (T := T) (n + 1) m (gw S hj a1 b1 c1) hm (hs.mono (by omega))
  rw [List.set_set] at e2
  have su : Sm k u := by unfold Sm at *; omega
  have sw : Sm k (1 + w) := by unfold Sm at *; omega
  obtain ⟨p, q, er, hq, hg, sp, sq, sg, _⟩ := red_rat (show 0 < 1 + w by omega) su sw
  have e3 := fun S => s__law_ratio (T := T) n u (1 + w) S (by omega) (sg.log (show k ≤ 9000 by omega) (by decide))
  rw [er] at e3
  simp only [List.map_cons, List.map_nil] at e3
  refine ⟨p, q, a2, b2, c2, hq, hg, sp, sq, ?_⟩
  rw [call_at t_26 ⟨rfl, by decide⟩]
  simp only [c_26, i_zip3, k_z3, k_z3b, k_z3c, z3_cons, z3_nil, k_enT, k_o1r, e_op1, e_op2, e_comp2, k_o1, k_o2, k_o2b, k_db, k_db2, k_dbT, k_dbI1, k_dbI0, k_db1, k_dbN, k_dbM, d_nil, d_cons, i_enum, i_zip, i_rev, k_enL, k_zi, k_ziL, k_ziT, k_rvL, k_rvT, e_var, k_var, x_aug, k_au, k_me, e_con, e_bin, e_neg, e_not, e_and, e_or, e_cmp, e_cmp2, e_ite, e_call, e_callk, e_blt, e_isi, e_idx, e_sl, e_tup, e_lst, e_comp, e_meth, es_nil, es_cons, if_nil, if_cons, o_none, o_some, i_ex, i_r1, i_r2, g_name, g_sub, g_tup, g_tupL, gs_nil, gs_cons, x_asg, x_par, x_ex, x_ret, x_ifs, x_for, x_whl, x_pass, x_brk, x_cont, xs_nil, xs_cons, k_bin, k_bin2, k_neg, k_not, k_not2, k_and, k_and1, k_and0, k_or, k_or1, k_or0, k_cmp, k_cmp2, k_cmp3, k_c2, k_c2b, k_c2t, k_c2f, k_ite, k_ite1, k_ite0, k_call, k_ck, k_ck2, k_blt, k_isi, k_idx, k_idx2, k_sl, k_sl2, k_sl3, k_tup, k_tup2, k_lst, k_lst2, f_nil, f_cons, f_d, k_fz, k_fz2, k_comp, k_comp2, k_me2, k_es, k_es2, k_if, k_if1, k_if0, k_o, k_iL, k_iT, k_iK, k_r1, k_r2, k_r2b, k_sb, k_sb2, k_sb3, k_ts, k_as, k_as2, k_par, k_aug, k_aug2, k_ex, k_ret1, k_ret0, k_ret2, k_ifs, k_ifs1, k_ifs0, k_for, k_fo, k_foN, k_foC, k_foB, k_foR, k_sqN, k_sqC, k_sqB, k_sqR, k_fin, fin_d, fin_nx, c_nil, c_cons, k_cs, k_cs1, k_cs0, k_cs3, k_cs4, k_cs5, fo_nil, fo_cons, sizeL, evT, rb_ok, rb_no, q_add, q_sub, q_cmp, q_lt, q_le, q_gt, q_ge, q_eqI, q_neI, q_eqS, q_neS, q_isB, q_notB, q_isN, q_notN, q_truB, q_truI, q_truL, q_truT, q_truN, q_ixT, q_ixL, q_ixK, q_der, q_at0, q_at1, q_at2, q_at3, q_mkf, q_mkt, q_ixR, k_ixR, k_ix2, q_stR, k_stR, k_st2, q_slK, q_slL, fin_new, take_set, List.set_set, List.length_set, k_sqD0, ix30, ix31, ix32, b_lenL, b_lenT, b_lenK, b_int, b_intB, b_boolI, b_abs, b_max, b_min, b_tupL, b_tupT, b_gcd, b_listL, b_listT, b_listK, b_all, b_any, b_sum, asBools, asInts, Option.map_some, Option.map_none, isiD, List.map_cons, List.map_nil, List.cons_append, List.nil_append, List.append_nil, List.length_cons, List.length_nil, List.getElem?_cons_zero, List.getElem?_cons_succ, List.set_cons_zero, List.set_cons_succ, List.replicate, List.replicate_zero, List.replicate_succ, List.take_length, List.take_succ_cons, Nat.sub_self, setAll, if_true, if_false, Bool.false_eq_true, Nat.reduceAdd, Nat.reduceSub, Nat.reduceLeDiff, Nat.reduceLT, permU, List.filterMap_cons, List.filterMap_nil, wipeE, e1, e2, e3]
theorem f__law_worth (t : Nat) (S : Sto) (x0 : Option U) {c L : Nat} {n m : Int} (hm : Sm c m) (hL : c * L ≤ 400000) (hc : c ≤ 400000) : ∀ (l : List D) (k : Nat) (o : Option U), k + l.length ≤ L →
    ∃ o', forE (call T t) (.name 3) c_27_b0 [] l [x0, some (.d (.tuple [.int n, .int m])), some (.d (.int (m ^ k))), o] S = .ok (.nx [x0, some (.d (.tuple [.int n, .int m])), some (.d (.int (m ^ (k + l.length)))), o']) S
  | [], k, o, _ => ⟨o, by simp only [fo_nil, List.length_nil, Nat.add_zero]⟩
  | x :: l, k, o, h => by
    obtain ⟨o', e⟩ := f__law_worth t S x0 (n := n) hm hL hc l (k + 1) (some (.d x)) (by simp only [List.length_cons] at h; omega)
    have ck : c * k ≤ c * L := Nat.mul_le_mul_left _ (by omega)
    have l3 : mulOk (m ^ k) m = true := (MO.mk (pow_sm hm k) hm (by omega)).ok
    refine ⟨o', ?_⟩
    rw [show k + (x :: l).length = k + 1 + l.length by simp only [List.length_cons]; omega]
    rw [Int.pow_succ] at e
    simp only [fo_cons]
    simp only [c_27_b0, i_zip3, k_z3, k_z3b, k_z3c, z3_cons, z3_nil, k_enT, k_o1r, e_op1, e_op2, e_comp2, k_o1, k_o2, k_o2b, k_db, k_db2, k_dbT, k_dbI1, k_dbI0, k_db1, k_dbN, k_dbM, d_nil, d_cons, i_enum, i_zip, i_rev, k_enL, k_zi, k_ziL, k_ziT, k_rvL, k_rvT, e_var, k_var, x_aug, k_au, k_me, e_con, e_bin, e_neg, e_not, e_and, e_or, e_cmp, e_cmp2, e_ite, e_call, e_callk, e_blt, e_isi, e_idx, e_sl, e_tup, e_lst, e_comp, e_meth, es_nil, es_cons, if_nil, if_cons, o_none, o_some, i_ex, i_r1, i_r2, g_name, g_sub, g_tup, g_tupL, gs_nil, gs_cons, x_asg, x_par, x_ex, x_ret, x_ifs, x_for, x_whl, x_pass, x_brk, x_cont, xs_nil, xs_cons, k_bin, k_bin2, k_neg, k_not, k_not2, k_and, k_and1, k_and0, k_or, k_or1, k_or0, k_cmp, k_cmp2, k_cmp3, k_c2, k_c2b, k_c2t, k_c2f, k_ite, k_ite1, k_ite0, k_call, k_ck, k_ck2, k_blt, k_isi, k_idx, k_idx2, k_sl, k_sl2, k_sl3, k_tup, k_tup2, k_lst, k_lst2, f_nil, f_cons, f_d, k_fz, k_fz2, k_comp, k_comp2, k_me2, k_es, k_es2, k_if, k_if1, k_if0, k_o, k_iL, k_iT, k_iK, k_r1, k_r2, k_r2b, k_sb, k_sb2, k_sb3, k_ts, k_as, k_as2, k_par, k_aug, k_aug2, k_ex, k_ret1, k_ret0, k_ret2, k_ifs, k_ifs1, k_ifs0, k_for, k_fo, k_foN, k_foC, k_foB, k_foR, k_sqN, k_sqC, k_sqB, k_sqR, k_fin, fin_d, fin_nx, c_nil, c_cons, k_cs, k_cs1, k_cs0, k_cs3, k_cs4, k_cs5, fo_nil, fo_cons, sizeL, evT, rb_ok, rb_no, q_add, q_sub, q_cmp, q_lt, q_le, q_gt, q_ge, q_eqI, q_neI, q_eqS, q_neS, q_isB, q_notB, q_isN, q_notN, q_truB, q_truI, q_truL, q_truT, q_truN, q_ixT, q_ixL, q_ixK, q_der, q_at0, q_at1, q_at2, q_at3, q_mkf, q_mkt, q_ixR, k_ixR, k_ix2, q_stR, k_stR, k_st2, q_slK, q_slL, fin_new, take_set, List.set_set, List.length_set, k_sqD0, ix30, ix31, ix32, b_lenL, b_lenT, b_lenK, b_int, b_intB, b_boolI, b_abs, b_max, b_min, b_tupL, b_tupT, b_gcd, b_listL, b_listT, b_listK, b_all, b_any, b_sum, asBools, asInts, Option.map_some, Option.map_none, isiD, List.map_cons, List.map_nil, List.cons_append, List.nil_append, List.append_nil, List.length_cons, List.length_nil, List.getElem?_cons_zero, List.getElem?_cons_succ, List.set_cons_zero, List.set_cons_succ, List.replicate, List.replicate_zero, List.replicate_succ, List.take_length, List.take_succ_cons, Nat.sub_self, setAll, if_true, if_false, Bool.false_eq_true, Nat.reduceAdd, Nat.reduceSub, Nat.reduceLeDiff, Nat.reduceLT, permU, List.filterMap_cons, List.filterMap_nil, wipeE, q_mulG _ _ l3]
    exact e
theorem s__law_worth (t : Nat) (xs : List Int) {b c : Nat} {n m : Int} (hm0 : 0 < m) (hn : Sm c n) (hm : Sm c m) (hx : ∀ y ∈ xs, Sm b y) (hL : b + xs.length * (c + 2) ≤ 8000) (hl : xs.length ≤ 4000) (hc : c ≤ 8000) (S : Sto) : call T (t + 3) 27 [.d (.list (xs.map PyData.int)), .d (.tuple [.int n, .int m])] S = .ok (.d (.tuple ((redL [nu xs n m, m ^ (xs.length - 1)]).map PyData.int))) S := by
  have cL : c * xs.length ≤ xs.length * (c + 2) := by rw [Nat.mul_comm c]; exact Nat.mul_le_mul_left _ (by omega)
  have cl1 : c * (xs.length - 1) ≤ c * xs.length := Nat.mul_le_mul_left _ (by omega)
  obtain ⟨o', e⟩ := f__law_worth (T := T) (t + 2) S (some (.d (.list (xs.map PyData.int)))) (n := n) hm (L := xs.length) (by omega) (by omega) (intsD 0 ((xs.length : Int) - 1).toNat) 0 none (by unfold intsD; simp)
  rw [Int.pow_zero, show 0 + (intsD 0 ((xs.length : Int) - 1).toNat).length = xs.length - 1 by unfold intsD; simp] at e
  have sn := nu_sm hn hm hx
  have sp := pow_sm hm (xs.length - 1)
  have gs := gcL_sm (k := 8001) (ns := [nu xs n m, m ^ (xs.length - 1)]) (fun y hy => by
    simp only [List.mem_cons, List.not_mem_nil, or_false] at hy
    rcases hy with rfl | rfl
    · exact sn.mono (by omega)
    · exact sp.mono (by omega))
  have e3 := fun S => s__law_ratio (T := T) t _ _ S (Int.pow_pos hm0) (gs.log (show 8001 ≤ 9000 by decide) (by decide))
  have e2 := fun S => s__law_value (T := T) (t + 1) xs hn hm hx (show b + xs.length * (c + 2) ≤ 400000 by omega) S
  have k1 : -(2 ^ 62 : Int) ≤ (xs.length : Int) - 1 ∧ (xs.length : Int) - 1 < 2 ^ 62 := by omega
  rw [call_at t_27 ⟨rfl, by decide⟩]
  simp only [c_27, xs_cons, x_asg, e_con, k_as, k_as2, g_name, List.set_cons_zero, List.set_cons_succ, List.map_cons, List.map_nil, List.cons_append, List.nil_append, List.length_cons, List.length_nil, Nat.reduceAdd, Nat.reduceSub, List.replicate, k_sqN, x_for, i_r1, e_bin, e_blt, es_cons, es_nil, e_var, k_var, List.getElem?_cons_zero, List.getElem?_cons_succ, k_es, k_es2, k_blt, b_lenL, List.length_map, k_bin, k_bin2, q_sub, k_r1, k1, and_self, if_true, k_for, e]
  simp only [i_zip3, k_z3, k_z3b, k_z3c, z3_cons, z3_nil, k_enT, k_o1r, e_op1, e_op2, e_comp2, k_o1, k_o2, k_o2b, k_db, k_db2, k_dbT, k_dbI1, k_dbI0, k_db1, k_dbN, k_dbM, d_nil, d_cons, i_enum, i_zip, i_rev, k_enL, k_zi, k_ziL, k_ziT, k_rvL, k_rvT, e_var, k_var, x_aug, k_au, k_me, e_con, e_bin, e_neg, e_not, e_and, e_or, e_cmp, e_cmp2, e_ite, e_call, e_callk, e_blt, e_isi, e_idx, e_sl, e_tup, e_lst, e_comp, e_meth, es_nil, es_cons, if_nil, if_cons, o_none, o_some, i_ex, i_r1, i_r2, g_name, g_sub, g_tup, g_tupL, gs_nil, gs_cons, x_asg, x_par, x_ex, x_ret, x_ifs, x_for, x_whl, x_pass, x_brk, x_cont, xs_nil, xs_cons, k_bin, k_bin2, k_neg, k_not, k_not2, k_and, k_and1, k_and0, k_or, k_or1, k_or0, k_cmp, k_cmp2, k_cmp3, k_c2, k_c2b, k_c2t, k_c2f, k_ite, k_ite1, k_ite0, k_call, k_ck, k_ck2, k_blt, k_isi, k_idx, k_idx2, k_sl, k_sl2, k_sl3, k_tup, k_tup2, k_lst, k_lst2, f_nil, f_cons, f_d, k_fz, k_fz2, k_comp, k_comp2, k_me2, k_es, k_es2, k_if, k_if1, k_if0, k_o, k_iL, k_iT, k_iK, k_r1, k_r2, k_r2b, k_sb, k_sb2, k_sb3, k_ts, k_as, k_as2, k_par, k_aug, k_aug2, k_ex, k_ret1, k_ret0, k_ret2, k_ifs, k_ifs1, k_ifs0, k_for, k_fo, k_foN, k_foC, k_foB, k_foR, k_sqN, k_sqC, k_sqB, k_sqR, k_fin, fin_d, fin_nx, c_nil, c_cons, k_cs, k_cs1, k_cs0, k_cs3, k_cs4, k_cs5, fo_nil, fo_cons, sizeL, evT, rb_ok, rb_no, q_add, q_sub, q_cmp, q_lt, q_le, q_gt, q_ge, q_eqI, q_neI, q_eqS, q_neS, q_isB, q_notB, q_isN, q_notN, q_truB, q_truI, q_truL, q_truT, q_truN, q_ixT, q_ixL, q_ixK, q_der, q_at0, q_at1, q_at2, q_at3, q_mkf, q_mkt, q_ixR, k_ixR, k_ix2, q_stR, k_stR, k_st2, q_slK, q_slL, fin_new, take_set, List.set_set, List.length_set, k_sqD0, ix30, ix31, ix32, b_lenL, b_lenT, b_lenK, b_int, b_intB, b_boolI, b_abs, b_max, b_min, b_tupL, b_tupT, b_gcd, b_listL, b_listT, b_listK, b_all, b_any, b_sum, asBools, asInts, Option.map_some, Option.map_none, isiD, List.map_cons, List.map_nil, List.cons_append, List.nil_append, List.append_nil, List.length_cons, List.length_nil, List.getElem?_cons_zero, List.getElem?_cons_succ, List.set_cons_zero, List.set_cons_succ, List.replicate, List.replicate_zero, List.replicate_succ, List.take_length, List.take_succ_cons, Nat.sub_self, setAll, if_true, if_false, Bool.false_eq_true, Nat.reduceAdd, Nat.reduceSub, Nat.reduceLeDiff, Nat.reduceLT, permU, List.filterMap_cons, List.filterMap_nil, wipeE, e2, e3]

end My

namespace My
open PySem L2 Ev Tb
variable {T : Tab} [Tb T]
theorem lgS {k : Nat} {i : Int} (h : Sm k i) (hk : k ≤ 1920) : i.natAbs.log2 < 1920 := h.log hk (by decide)
/-- a polynomial of the law -/
structure Row (xs : List Int) : Prop where
  tr : trimL xs = xs
  len : xs.length ≤ 14
  sm : ∀ x ∈ xs, Sm 150 x
structure RatOk (p q : Int) : Prop where
  pos : 0 < q
  co : gcL [p, q] = 1
  sp : Sm 21 p
  sq : Sm 21 q
theorem b0_ok (n : Nat) {xs : List Int} (h : Row xs) {p q : Int} (r : RatOk p q) (u0 u1 u2 u3 u4 u5 u6 u7 u10 : Option U) (S : Sto) : exSs c_28_b0 (call T (n + 5)) [u0, u1, u2, u3, u4, u5, u6, u7, some (.d (.tuple [.int p, .int q])), some (.d (.tuple (xs.map PyData.int))), u10] S =
    .ok (.nx [u0, u1, u2, u3, u4, u5, u6, u7, some (.d (.tuple [.int p, .int q])), some (.d (.tuple (xs.map PyData.int))), u10]) S := by
  have hl := h.len
  have l1 : xs.length * (21 + 2) ≤ 14 * 23 := Nat.mul_le_mul_right _ hl
  have l2 : 21 * (xs.length - 1) ≤ 21 * 14 := Nat.mul_le_mul_left _ (by omega)
  have e1 := fun S => s_value_at (T := T) n xs h.tr r.pos r.co r.sp r.sq h.sm (by omega) (by omega) S
  have e2 := fun S => s__law_worth (T := T) (n + 2) xs r.pos r.sp r.sq h.sm (by omega) (by omega) (by decide) S
  have pp : 0 < q ^ (xs.length - 1) := Int.pow_pos r.pos
  obtain ⟨s, t, er, ss, st⟩ := red_pair (k := 473) (by omega) ((nu_sm r.sp r.sq h.sm).mono (by omega)) ((pow_sm r.sq (xs.length - 1)).mono (by omega))
  rw [er] at e1 e2
  simp only [List.map_cons, List.map_nil] at e1 e2
  have z1 := lgS ss (by decide)
  have z2 := lgS st (by decide)
  have rp : rpB (.tuple [.int s, .int t]) = true := by simp [rpB, PyData.showable, PyData.showableAll, PyData.hasDict, PyData.hasDictAll, PyData.depth, PyData.depthAll, cst, cstAll, sizeL, Int.natAbs_neg, z1, z2]
  simp only [c_28_b0, i_zip3, k_z3, k_z3b, k_z3c, z3_cons, z3_nil, k_enT, k_o1r, e_op1, e_op2, e_comp2, k_o1, k_o2, k_o2b, k_db, k_db2, k_dbT, k_dbI1, k_dbI0, k_db1, k_dbN, k_dbM, d_nil, d_cons, i_enum, i_zip, i_rev, k_enL, k_zi, k_ziL, k_ziT, k_rvL, k_rvT, e_var, k_var, x_aug, k_au, k_me, e_con, e_bin, e_neg, e_not, e_and, e_or, e_cmp, e_cmp2, e_ite, e_call, e_callk, e_blt, e_isi, e_idx, e_sl, e_tup, e_lst, e_comp, e_meth, es_nil, es_cons, if_nil, if_cons, o_none, o_some, i_ex, i_r1, i_r2, g_name, g_sub, g_tup, g_tupL, gs_nil, gs_cons, x_asg, x_par, x_ex, x_ret, x_ifs, x_for, x_whl, x_pass, x_brk, x_cont, xs_nil, xs_cons, k_bin, k_bin2, k_neg, k_not, k_not2, k_and, k_and1, k_and0, k_or, k_or1, k_or0, k_cmp, k_cmp2, k_cmp3, k_c2, k_c2b, k_c2t, k_c2f, k_ite, k_ite1, k_ite0, k_call, k_ck, k_ck2, k_blt, k_isi, k_idx, k_idx2, k_sl, k_sl2, k_sl3, k_tup, k_tup2, k_lst, k_lst2, f_nil, f_cons, f_d, k_fz, k_fz2, k_comp, k_comp2, k_me2, k_es, k_es2, k_if, k_if1, k_if0, k_o, k_iL, k_iT, k_iK, k_r1, k_r2, k_r2b, k_sb, k_sb2, k_sb3, k_ts, k_as, k_as2, k_par, k_aug, k_aug2, k_ex, k_ret1, k_ret0, k_ret2, k_ifs, k_ifs1, k_ifs0, k_for, k_fo, k_foN, k_foC, k_foB, k_foR, k_sqN, k_sqC, k_sqB, k_sqR, k_fin, fin_d, fin_nx, c_nil, c_cons, k_cs, k_cs1, k_cs0, k_cs3, k_cs4, k_cs5, fo_nil, fo_cons, sizeL, evT, rb_ok, rb_no, q_add, q_sub, q_cmp, q_lt, q_le, q_gt, q_ge, q_eqI, q_neI, q_eqS, q_neS, q_isB, q_notB, q_isN, q_notN, q_truB, q_truI, q_truL, q_truT, q_truN, q_ixT, q_ixL, q_ixK, q_der, q_at0, q_at1, q_at2, q_at3, q_mkf, q_mkt, q_ixR, k_ixR, k_ix2, q_stR, k_stR, k_st2, q_slK, q_slL, fin_new, take_set, List.set_set, List.length_set, k_sqD0, ix30, ix31, ix32, b_lenL, b_lenT, b_lenK, b_int, b_intB, b_boolI, b_abs, b_max, b_min, b_tupL, b_tupT, b_gcd, b_listL, b_listT, b_listK, b_all, b_any, b_sum, asBools, asInts, Option.map_some, Option.map_none, isiD, List.map_cons, List.map_nil, List.cons_append, List.nil_append, List.append_nil, List.length_cons, List.length_nil, List.getElem?_cons_zero, List.getElem?_cons_succ, List.set_cons_zero, List.set_cons_succ, List.replicate, List.replicate_zero, List.replicate_succ, List.take_length, List.take_succ_cons, Nat.sub_self, setAll, if_true, if_false, Bool.false_eq_true, Nat.reduceAdd, Nat.reduceSub, Nat.reduceLeDiff, Nat.reduceLT, permU, List.filterMap_cons, List.filterMap_nil, wipeE, e1, e2, b_repr _ rp, decide_true, Bool.not_true]
theorem b1_ok (n : Nat) {xs ys ts ms : List Int} (h1 : Row xs) (h2 : Row ys) (h3 : Row ts) (h4 : Row ms) {p q : Int} (r : RatOk p q) (u0 u1 u2 u5 o9 u10 : Option U) (S : Sto) : ∃ p9, exSs c_28_b1 (call T (n + 5)) [u0, u1, u2, some (.d (.tuple (xs.map PyData.int))), some (.d (.tuple (ys.map PyData.int))), u5, some (.d (.tuple (ts.map PyData.int))), some (.d (.tuple (ms.map PyData.int))), some (.d (.tuple [.int p, .int q])), o9, u10] S =
    .ok (.nx [u0, u1, u2, some (.d (.tuple (xs.map PyData.int))), some (.d (.tuple (ys.map PyData.int))), u5, some (.d (.tuple (ts.map PyData.int))), some (.d (.tuple (ms.map PyData.int))), some (.d (.tuple [.int p, .int q])), p9, u10]) S := by
  have f := fun {zs : List Int} (h : Row zs) => b0_ok (T := T) n h r u0 u1 u2 (some (.d (.tuple (xs.map PyData.int)))) (some (.d (.tuple (ys.map PyData.int)))) u5 (some (.d (.tuple (ts.map PyData.int)))) (some (.d (.tuple (ms.map PyData.int)))) u10 S
  have f1 := f h1
  have f2 := f h2
  have f3 := f h3
  have f4 := f h4
  refine ⟨some (.d (.tuple (ms.map PyData.int))), ?_⟩
  simp only [c_28_b1, i_zip3, k_z3, k_z3b, k_z3c, z3_cons, z3_nil, k_enT, k_o1r, e_op1, e_op2, e_comp2, k_o1, k_o2, k_o2b, k_db, k_db2, k_dbT, k_dbI1, k_dbI0, k_db1, k_dbN, k_dbM, d_nil, d_cons, i_enum, i_zip, i_rev, k_enL, k_zi, k_ziL, k_ziT, k_rvL, k_rvT, e_var, k_var, x_aug, k_au, k_me, e_con, e_bin, e_neg, e_not, e_and, e_or, e_cmp, e_cmp2, e_ite, e_call, e_callk, e_blt, e_isi, e_idx, e_sl, e_tup, e_lst, e_comp, e_meth, es_nil, es_cons, if_nil, if_cons, o_none, o_some, i_ex, i_r1, i_r2, g_name, g_sub, g_tup, g_tupL, gs_nil, gs_cons, x_asg, x_par, x_ex, x_ret, x_ifs, x_for, x_whl, x_pass, x_brk, x_cont, xs_nil, xs_cons, k_bin, k_bin2, k_neg, k_not, k_not2, k_and, k_and1, k_and0, k_or, k_or1, k_or0, k_cmp, k_cmp2, k_cmp3, k_c2, k_c2b, k_c2t, k_c2f, k_ite, k_ite1, k_ite0, k_call, k_ck, k_ck2, k_blt, k_isi, k_idx, k_idx2, k_sl, k_sl2, k_sl3, k_tup, k_tup2, k_lst, k_lst2, f_nil, f_cons, f_d, k_fz, k_fz2, k_comp, k_comp2, k_me2, k_es, k_es2, k_if, k_if1, k_if0, k_o, k_iL, k_iT, k_iK, k_r1, k_r2, k_r2b, k_sb, k_sb2, k_sb3, k_ts, k_as, k_as2, k_par, k_aug, k_aug2, k_ex, k_ret1, k_ret0, k_ret2, k_ifs, k_ifs1, k_ifs0, k_for, k_fo, k_foN, k_foC, k_foB, k_foR, k_sqN, k_sqC, k_sqB, k_sqR, k_fin, fin_d, fin_nx, c_nil, c_cons, k_cs, k_cs1, k_cs0, k_cs3, k_cs4, k_cs5, fo_nil, fo_cons, sizeL, evT, rb_ok, rb_no, q_add, q_sub, q_cmp, q_lt, q_le, q_gt, q_ge, q_eqI, q_neI, q_eqS, q_neS, q_isB, q_notB, q_isN, q_notN, q_truB, q_truI, q_truL, q_truT, q_truN, q_ixT, q_ixL, q_ixK, q_der, q_at0, q_at1, q_at2, q_at3, q_mkf, q_mkt, q_ixR, k_ixR, k_ix2, q_stR, k_stR, k_st2, q_slK, q_slL, fin_new, take_set, List.set_set, List.length_set, k_sqD0, ix30, ix31, ix32, b_lenL, b_lenT, b_lenK, b_int, b_intB, b_boolI, b_abs, b_max, b_min, b_tupL, b_tupT, b_gcd, b_listL, b_listT, b_listK, b_all, b_any, b_sum, asBools, asInts, Option.map_some, Option.map_none, isiD, List.map_cons, List.map_nil, List.cons_append, List.nil_append, List.append_nil, List.length_cons, List.length_nil, List.getElem?_cons_zero, List.getElem?_cons_succ, List.set_cons_zero, List.set_cons_succ, List.replicate, List.replicate_zero, List.replicate_succ, List.take_length, List.take_succ_cons, Nat.sub_self, setAll, if_true, if_false, Bool.false_eq_true, Nat.reduceAdd, Nat.reduceSub, Nat.reduceLeDiff, Nat.reduceLT, permU, List.filterMap_cons, List.filterMap_nil, wipeE, f1, f2, f3, f4]
theorem rat_cases {p q : Int} (h : 0 < q ∧ gcL [p, q] = 1 ∧ Sm 21 p ∧ Sm 21 q) : RatOk p q := ⟨h.1, h.2.1, h.2.2.1, h.2.2.2⟩
theorem rp_row {xs : List Int} (h : Row xs) : rpB (.tuple (xs.map PyData.int)) = true := rp_iT (fun x hx => (h.sm x hx).mono (by decide)) (by have := h.len; omega)
theorem rp_rows {xs ys : List Int} (h : Row xs) (g : Row ys) : rpB (.list [.tuple (xs.map PyData.int), .tuple (ys.map PyData.int)]) = true := by
  have h1 := h.len
  have g1 := g.len
  obtain ⟨a, b, c, d⟩ := rp_ints fun x hx => (h.sm x hx).mono (show 150 ≤ 1900 by decide)
  obtain ⟨a2, b2, c2, d2⟩ := rp_ints fun x hx => (g.sm x hx).mono (show 150 ≤ 1900 by decide)
  simp [rpB, PyData.showable, PyData.showableAll, PyData.hasDict, PyData.hasDictAll, PyData.depth, PyData.depthAll, cst, cstAll, a, b, c, d, a2, b2, c2, d2, sizeL]
  omega
theorem s__law_right (n : Nat) {S : Sto} {j : Nat} {a' b' c' : Int} (hS : S[j]? = some (some [.int a', .int b', .int c'])) : ∃ a2 b2 c2, call T (n + 6) 28 [.r j] S = .ok (.d (.bool true)) (S.set j (some [.int a2, .int b2, .int c2])) := by
  have hj : j < S.length := (List.getElem?_eq_some_iff.mp hS).1
  have b65 : ∀ {i : Int}, i.natAbs < 2 ^ 64 → Sm 8000 i := fun h => Sm.mono (b := 64) h (by decide)
  obtain ⟨one, a1, b1, c1, l1, s1, t1, e1⟩ := s__law_row (T := T) (n + 2) 100000000000000000000 7 hS (by decide) (k := 67) (by unfold Sm; decide) (by decide) (by decide) (by decide)
  obtain ⟨tw0, a2, b2, c2, l2, s2, t2, e2⟩ := s__law_row (T := T) (n + 2) 99 6 (gw S hj a1 b1 c1) (by decide) (k := 7) (by unfold Sm; decide) (by decide) (by decide) (by decide)
  rw [List.set_set] at e2
  have hif : ∃ (two : List Int) (a b c : Int), two.length ≤ 7 ∧ (∀ x ∈ two, Sm 68 x) ∧ trimL two = two ∧ ∀ o3 o4 o5 o6 o7 o8 o9 o10, exS (.ifs (.cmp .Eq (.call 16 (.cons (.var 0) (.cons (.con (.int 4)) .nil))) (.con (.int 0))) (.cons (.asg (.name 2) (.call 22 (.cons (.comp false [10] (.name 10) (.ex (.var 1)) .nil (.bin false .Sub (.con (.int 0)) (.var 10))) (.cons (.call 25 (.cons (.var 0) (.cons (.con (.int 9)) (.cons (.con (.int 3)) .nil)))) (.cons (.con (.int 1)) .nil))))) .nil) .nil) (call T (n + 5)) [some (.r j), some (.d (.list (one.map PyData.int))), some (.d (.list (tw0.map PyData.int))), o3, o4, o5, o6, o7, o8, o9, o10] (S.set j (some [.int a2, .int b2, .int c2])) =
      .ok (.nx [some (.r j), some (.d (.list (one.map PyData.int))), some (.d (.list (two.map PyData.int))), o3, o4, o5, o6, o7, o8, o9, o10]) (S.set j (some [.int a, .int b, .int c])) := by
    obtain ⟨r, a3, b3, c3, r0, r1, e3⟩ := s__law_take (T := T) (n + 4) 4 (gw S hj a2 b2 c2) (by decide) (b65 (by decide))
    rw [List.set_set] at e3
    by_cases hr : r = 0
    · obtain ⟨zs, a4, b4, c4, l4, s4, t4, e4⟩ := s__law_row (T := T) (n + 2) 9 3 (gw S hj a3 b3 c3) (by decide) (k := 4) (by unfold Sm; decide) (by decide) (by decide) (by decide)
      rw [List.set_set] at e4
      have sn : ∀ x ∈ one.map (fun x => 0 - x), Sm 67 x := fun x hx => by
        obtain ⟨y, hy, rfl⟩ := List.mem_map.mp hx
        rw [Int.zero_sub]
        exact (s1 y hy).neg
      have e5 := fun S => s__law_sum (T := T) (n + 3) false false (one.map fun x => 0 - x) zs (by rw [List.length_map]; omega) (by omega) S
      simp only [rwD, Bool.false_eq_true, if_false] at e5
      have cc : ∀ (a b d e f g h i k l o : Option U) (S : Sto), compE (call T (n + 5)) [a, b, d, e, f, g, h, i, k, l, o] [10] (.name 10) .nil (.bin false .Sub (.con (.int 0)) (.var 10)) [] (one.map PyData.int) S = .ok (((one.map fun x => 0 - x)).map PyData.int) S := fun a b d e f g h i k l o S => by
        rw [List.map_map]
        exact c_all PyData.int (fun x => PyData.int (0 - x)) one fun x _ => ⟨[a, b, d, e, f, g, h, i, k, l, some (.d (.int x))], by simp only [i_zip3, k_z3, k_z3b, k_z3c, z3_cons, z3_nil, k_enT, k_o1r, e_op1, e_op2, e_comp2, k_o1, k_o2, k_o2b, k_db, k_db2, k_dbT, k_dbI1, k_dbI0, k_db1, k_dbN, k_dbM, d_nil, d_cons, i_enum, i_zip, i_rev, k_enL, k_zi, k_ziL, k_ziT, k_rvL, k_rvT, e_var, k_var, x_aug, k_au, k_me, e_con, e_bin, e_neg, e_not, e_and, e_or, e_cmp, e_cmp2, e_ite, e_call, e_callk, e_blt, e_isi, e_idx, e_sl, e_tup, e_lst, e_comp, e_meth, es_nil, es_cons, if_nil, if_cons, o_none, o_some, i_ex, i_r1, i_r2, g_name, g_sub, g_tup, g_tupL, gs_nil, gs_cons, x_asg, x_par, x_ex, x_ret, x_ifs, x_for, x_whl, x_pass, x_brk, x_cont, xs_nil, xs_cons, k_bin, k_bin2, k_neg, k_not, k_not2, k_and, k_and1, k_and0, k_or, k_or1, k_or0, k_cmp, k_cmp2, k_cmp3, k_c2, k_c2b, k_c2t, k_c2f, k_ite, k_ite1, k_ite0, k_call, k_ck, k_ck2, k_blt, k_isi, k_idx, k_idx2, k_sl, k_sl2, k_sl3, k_tup, k_tup2, k_lst, k_lst2, f_nil, f_cons, f_d, k_fz, k_fz2, k_comp, k_comp2, k_me2, k_es, k_es2, k_if, k_if1, k_if0, k_o, k_iL, k_iT, k_iK, k_r1, k_r2, k_r2b, k_sb, k_sb2, k_sb3, k_ts, k_as, k_as2, k_par, k_aug, k_aug2, k_ex, k_ret1, k_ret0, k_ret2, k_ifs, k_ifs1, k_ifs0, k_for, k_fo, k_foN, k_foC, k_foB, k_foR, k_sqN, k_sqC, k_sqB, k_sqR, k_fin, fin_d, fin_nx, c_nil, c_cons, k_cs, k_cs1, k_cs0, k_cs3, k_cs4, k_cs5, fo_nil, fo_cons, sizeL, evT, rb_ok, rb_no, q_add, q_sub, q_cmp, q_lt, q_le, q_gt, q_ge, q_eqI, q_neI, q_eqS, q_neS, q_isB, q_notB, q_isN, q_notN, q_truB, q_truI, q_truL, q_truT, q_truN, q_ixT, q_ixL, q_ixK, q_der, q_at0, q_at1, q_at2, q_at3, q_mkf, q_mkt, q_ixR, k_ixR, k_ix2, q_stR, k_stR, k_st2, q_slK, q_slL, fin_new, take_set, List.set_set, List.length_set, k_sqD0, ix30, ix31, ix32, b_lenL, b_lenT, b_lenK, b_int, b_intB, b_boolI, b_abs, b_max, b_min, b_tupL, b_tupT, b_gcd, b_listL, b_listT, b_listK, b_all, b_any, b_sum, asBools, asInts, Option.map_some, Option.map_none, isiD, List.map_cons, List.map_nil, List.cons_append, List.nil_append, List.append_nil, List.length_cons, List.length_nil, List.getElem?_cons_zero, List.getElem?_cons_succ, List.set_cons_zero, List.set_cons_succ, List.replicate, List.replicate_zero, List.replicate_succ, List.take_length, List.take_succ_cons, Nat.sub_self, setAll, if_true, if_false, Bool.false_eq_true, Nat.reduceAdd, Nat.reduceSub, Nat.reduceLeDiff, Nat.reduceLT, permU, List.filterMap_cons, List.filterMap_nil, wipeE], by simp only [i_zip3, k_z3, k_z3b, k_z3c, z3_cons, z3_nil, k_enT, k_o1r, e_op1, e_op2, e_comp2, k_o1, k_o2, k_o2b, k_db, k_db2, k_dbT, k_dbI1, k_dbI0, k_db1, k_dbN, k_dbM, d_nil, d_cons, i_enum, i_zip, i_rev, k_enL, k_zi, k_ziL, k_ziT, k_rvL, k_rvT, e_var, k_var, x_aug, k_au, k_me, e_con, e_bin, e_neg, e_not, e_and, e_or, e_cmp, e_cmp2, e_ite, e_call, e_callk, e_blt, e_isi, e_idx, e_sl, e_tup, e_lst, e_comp, e_meth, es_nil, es_cons, if_nil, if_cons, o_none, o_some, i_ex, i_r1, i_r2, g_name, g_sub, g_tup, g_tupL, gs_nil, gs_cons, x_asg, x_par, x_ex, x_ret, x_ifs, x_for, x_whl, x_pass, x_brk, x_cont, xs_nil, xs_cons, k_bin, k_bin2, k_neg, k_not, k_not2, k_and, k_and1, k_and0, k_or, k_or1, k_or0, k_cmp, k_cmp2, k_cmp3, k_c2, k_c2b, k_c2t, k_c2f, k_ite, k_ite1, k_ite0, k_call, k_ck, k_ck2, k_blt, k_isi, k_idx, k_idx2, k_sl, k_sl2, k_sl3, k_tup, k_tup2, k_lst, k_lst2, f_nil, f_cons, f_d, k_fz, k_fz2, k_comp, k_comp2, k_me2, k_es, k_es2, k_if, k_if1, k_if0, k_o, k_iL, k_iT, k_iK, k_r1, k_r2, k_r2b, k_sb, k_sb2, k_sb3, k_ts, k_as, k_as2, k_par, k_aug, k_aug2, k_ex, k_ret1, k_ret0, k_ret2, k_ifs, k_ifs1, k_ifs0, k_for, k_fo, k_foN, k_foC, k_foB, k_foR, k_sqN, k_sqC, k_sqB, k_sqR, k_fin, fin_d, fin_nx, c_nil, c_cons, k_cs, k_cs1, k_cs0, k_cs3, k_cs4, k_cs5, fo_nil, fo_cons, sizeL, evT, rb_ok, rb_no, q_add, q_sub, q_cmp, q_lt, q_le, q_gt, q_ge, q_eqI, q_neI, q_eqS, q_neS, q_isB, q_notB, q_isN, q_notN, q_truB, q_truI, q_truL, q_truT, q_truN, q_ixT, q_ixL, q_ixK, q_der, q_at0, q_at1, q_at2, q_at3, q_mkf, q_mkt, q_ixR, k_ixR, k_ix2, q_stR, k_stR, k_st2, q_slK, q_slL, fin_new, take_set, List.set_set, List.length_set, k_sqD0, ix30, ix31, ix32, b_lenL, b_lenT, b_lenK, b_int, b_intB, b_boolI, b_abs, b_max, b_min, b_tupL, b_tupT, b_gcd, b_listL, b_listT, b_listK, b_all, b_any, b_sum, asBools, asInts, Option.map_some, Option.map_none, isiD, List.map_cons, List.map_nil, List.cons_append, List.nil_append, List.append_nil, List.length_cons, List.length_nil, List.getElem?_cons_zero, List.getElem?_cons_succ, List.set_cons_zero, List.set_cons_succ, List.replicate, List.replicate_zero, List.replicate_succ, List.take_length, List.take_succ_cons, Nat.sub_self, setAll, if_true, if_false, Bool.false_eq_true, Nat.reduceAdd, Nat.reduceSub, Nat.reduceLeDiff, Nat.reduceLT, permU, List.filterMap_cons, List.filterMap_nil, wipeE]⟩
      have ll : one.length < 16777216 := by omega
      refine ⟨sumL (one.map fun x => 0 - x) zs, a4, b4, c4, ?_, fun x hx => ?_, trim_idem _, fun o3 o4 o5 o6 o7 o8 o9 o10 => ?_⟩
      · have := sum_len (one.map fun x => 0 - x) zs
        rw [List.length_map] at this
        omega
      · exact (sum_sm sn s4 x hx).mono (by decide)
      · simp only [i_zip3, k_z3, k_z3b, k_z3c, z3_cons, z3_nil, k_enT, k_o1r, e_op1, e_op2, e_comp2, k_o1, k_o2, k_o2b, k_db, k_db2, k_dbT, k_dbI1, k_dbI0, k_db1, k_dbN, k_dbM, d_nil, d_cons, i_enum, i_zip, i_rev, k_enL, k_zi, k_ziL, k_ziT, k_rvL, k_rvT, e_var, k_var, x_aug, k_au, k_me, e_con, e_bin, e_neg, e_not, e_and, e_or, e_cmp, e_cmp2, e_ite, e_call, e_callk, e_blt, e_isi, e_idx, e_sl, e_tup, e_lst, e_comp, e_meth, es_nil, es_cons, if_nil, if_cons, o_none, o_some, i_ex, i_r1, i_r2, g_name, g_sub, g_tup, g_tupL, gs_nil, gs_cons, x_asg, x_par, x_ex, x_ret, x_ifs, x_for, x_whl, x_pass, x_brk, x_cont, xs_nil, xs_cons, k_bin, k_bin2, k_neg, k_not, k_not2, k_and, k_and1, k_and0, k_or, k_or1, k_or0, k_cmp, k_cmp2, k_cmp3, k_c2, k_c2b, k_c2t, k_c2f, k_ite, k_ite1, k_ite0, k_call, k_ck, k_ck2, k_blt, k_isi, k_idx, k_idx2, k_sl, k_sl2, k_sl3, k_tup, k_tup2, k_lst, k_lst2, f_nil, f_cons, f_d, k_fz, k_fz2, k_comp, k_comp2, k_me2, k_es, k_es2, k_if, k_if1, k_if0, k_o, k_iL, k_iT, k_iK, k_r1, k_r2, k_r2b, k_sb, k_sb2, k_sb3, k_ts, k_as, k_as2, k_par, k_aug, k_aug2, k_ex, k_ret1, k_ret0, k_ret2, k_ifs, k_ifs1, k_ifs0, k_for, k_fo, k_foN, k_foC, k_foB, k_foR, k_sqN, k_sqC, k_sqB, k_sqR, k_fin, fin_d, fin_nx, c_nil, c_cons, k_cs, k_cs1, k_cs0, k_cs3, k_cs4, k_cs5, fo_nil, fo_cons, sizeL, evT, rb_ok, rb_no, q_add, q_sub, q_cmp, q_lt, q_le, q_gt, q_ge, q_eqI, q_neI, q_eqS, q_neS, q_isB, q_notB, q_isN, q_notN, q_truB, q_truI, q_truL, q_truT, q_truN, q_ixT, q_ixL, q_ixK, q_der, q_at0, q_at1, q_at2, q_at3, q_mkf, q_mkt, q_ixR, k_ixR, k_ix2, q_stR, k_stR, k_st2, q_slK, q_slL, fin_new, take_set, List.set_set, List.length_set, k_sqD0, ix30, ix31, ix32, b_lenL, b_lenT, b_lenK, b_int, b_intB, b_boolI, b_abs, b_max, b_min, b_tupL, b_tupT, b_gcd, b_listL, b_listT, b_listK, b_all, b_any, b_sum, asBools, asInts, Option.map_some, Option.map_none, isiD, List.map_cons, List.map_nil, List.cons_append, List.nil_append, List.append_nil, List.length_cons, List.length_nil, List.getElem?_cons_zero, List.getElem?_cons_succ, List.set_cons_zero, List.set_cons_succ, List.replicate, List.replicate_zero, List.replicate_succ, List.take_length, List.take_succ_cons, Nat.sub_self, setAll, if_true, if_false, Bool.false_eq_true, Nat.reduceAdd, Nat.reduceSub, Nat.reduceLeDiff, Nat.reduceLT, permU, List.filterMap_cons, List.filterMap_nil, wipeE, e3, hr, decide_true, List.length_map, ll, cc, e4, e5]
    · refine ⟨tw0, a3, b3, c3, by omega, fun x hx => (s2 x hx).mono (by decide), t2, fun o3 o4 o5 o6 o7 o8 o9 o10 => ?_⟩
      simp only [i_zip3, k_z3, k_z3b, k_z3c, z3_cons, z3_nil, k_enT, k_o1r, e_op1, e_op2, e_comp2, k_o1, k_o2, k_o2b, k_db, k_db2, k_dbT, k_dbI1, k_dbI0, k_db1, k_dbN, k_dbM, d_nil, d_cons, i_enum, i_zip, i_rev, k_enL, k_zi, k_ziL, k_ziT, k_rvL, k_rvT, e_var, k_var, x_aug, k_au, k_me, e_con, e_bin, e_neg, e_not, e_and, e_or, e_cmp, e_cmp2, e_ite, e_call, e_callk, e_blt, e_isi, e_idx, e_sl, e_tup, e_lst, e_comp, e_meth, es_nil, es_cons, if_nil, if_cons, o_none, o_some, i_ex, i_r1, i_r2, g_name, g_sub, g_tup, g_tupL, gs_nil, gs_cons, x_asg, x_par, x_ex, x_ret, x_ifs, x_for, x_whl, x_pass, x_brk, x_cont, xs_nil, xs_cons, k_bin, k_bin2, k_neg, k_not, k_not2, k_and, k_and1, k_and0, k_or, k_or1, k_or0, k_cmp, k_cmp2, k_cmp3, k_c2, k_c2b, k_c2t, k_c2f, k_ite, k_ite1, k_ite0, k_call, k_ck, k_ck2, k_blt, k_isi, k_idx, k_idx2, k_sl, k_sl2, k_sl3, k_tup, k_tup2, k_lst, k_lst2, f_nil, f_cons, f_d, k_fz, k_fz2, k_comp, k_comp2, k_me2, k_es, k_es2, k_if, k_if1, k_if0, k_o, k_iL, k_iT, k_iK, k_r1, k_r2, k_r2b, k_sb, k_sb2, k_sb3, k_ts, k_as, k_as2, k_par, k_aug, k_aug2, k_ex, k_ret1, k_ret0, k_ret2, k_ifs, k_ifs1, k_ifs0, k_for, k_fo, k_foN, k_foC, k_foB, k_foR, k_sqN, k_sqC, k_sqB, k_sqR, k_fin, fin_d, fin_nx, c_nil, c_cons, k_cs, k_cs1, k_cs0, k_cs3, k_cs4, k_cs5, fo_nil, fo_cons, sizeL, evT, rb_ok, rb_no, q_add, q_sub, q_cmp, q_lt, q_le, q_gt, q_ge, q_eqI, q_neI, q_eqS, q_neS, q_isB, q_notB, q_isN, q_notN, q_truB, q_truI, q_truL, q_truT, q_truN, q_ixT, q_ixL, q_ixK, q_der, q_at0, q_at1, q_at2, q_at3, q_mkf, q_mkt, q_ixR, k_ixR, k_ix2, q_stR, k_stR, k_st2, q_slK, q_slL, fin_new, take_set, List.set_set, List.length_set, k_sqD0, ix30, ix31, ix32, b_lenL, b_lenT, b_lenK, b_int, b_intB, b_boolI, b_abs, b_max, b_min, b_tupL, b_tupT, b_gcd, b_listL, b_listT, b_listK, b_all, b_any, b_sum, asBools, asInts, Option.map_some, Option.map_none, isiD, List.map_cons, List.map_nil, List.cons_append, List.nil_append, List.append_nil, List.length_cons, List.length_nil, List.getElem?_cons_zero, List.getElem?_cons_succ, List.set_cons_zero, List.set_cons_succ, List.replicate, List.replicate_zero, List.replicate_succ, List.take_length, List.take_succ_cons, Nat.sub_self, setAll, if_true, if_false, Bool.false_eq_true, Nat.reduceAdd, Nat.reduceSub, Nat.reduceLeDiff, Nat.reduceLT, permU, List.filterMap_cons, List.filterMap_nil, wipeE, e3, hr, decide_false]
  obtain ⟨two, a5, b5, c5, l5, s5, t5, hif⟩ := hif
  obtain ⟨thr, a6, b6, c6, l6, s6, t6, e6⟩ := s__law_row (T := T) (n + 2) 9 3 (gw S hj a5 b5 c5) (by decide) (k := 4) (by unfold Sm; decide) (by decide) (by decide) (by decide)
  rw [List.set_set] at e6
  obtain ⟨p1, q1, a7, b7, c7, x1, x2, x3, x4, e7⟩ := s__law_free_ratio (T := T) (n + 2) 9 (gw S hj a6 b6 c6) (by decide) (k := 21) (by unfold Sm; decide) (by decide)
  rw [List.set_set] at e7
  obtain ⟨p2, q2, a8, b8, c8, y1, y2, y3, y4, e8⟩ := s__law_free_ratio (T := T) (n + 2) 1000000 (gw S hj a7 b7 c7) (by decide) (k := 21) (by unfold Sm; decide) (by decide)
  rw [List.set_set] at e8
  have o1 : Sm 21 1 := by unfold Sm; decide
  have R1 : RatOk p1 q1 := ⟨x1, x2, x3, x4⟩
  have R2 : RatOk p2 q2 := ⟨y1, y2, y3, y4⟩
  have R3 : RatOk 0 1 := ⟨by decide, by decide, Sm.zero.mono (by decide), o1⟩
  have R4 : RatOk 1 1 := ⟨by decide, by decide, o1, o1⟩
  have l1' : one.length ≤ 7 := by omega
  have l6' : thr.length ≤ 3 := by omega
  have H1 : Row one := ⟨t1, by omega, fun x hx => (s1 x hx).mono (by decide)⟩
  have H2 : Row two := ⟨t5, by omega, fun x hx => (s5 x hx).mono (by decide)⟩
  have sl := sum_len one two
  have H3 : Row (sumL one two) := ⟨trim_idem _, by omega, fun x hx => (sum_sm s1 s5 x hx).mono (by decide)⟩
  have ml := mul_len one two
  have mm : one.length * two.length ≤ 7 * 7 := Nat.mul_le_mul l1' l5
  have H4 : Row (mulL one two) := ⟨trim_idem _, by omega, fun x hx => (mul_sm s1 s5 (by omega) x hx).mono (by decide)⟩
  have sl2 := sum_len (sumL one two) thr
  have H5 : Row (sumL (sumL one two) thr) := ⟨trim_idem _, by omega, fun x hx => (sum_sm (sum_sm s1 s5) s6 x hx).mono (by decide)⟩
  have ml2 := mul_len (sumL one two) thr
  have mm2 : (sumL one two).length * thr.length ≤ 7 * 3 := Nat.mul_le_mul (by omega) l6'
  have H6 : Row (mulL (sumL one two) thr) := ⟨trim_idem _, by omega, fun x hx => (mul_sm (sum_sm s1 s5) s6 (by omega) x hx).mono (by decide)⟩
  have mk1 : ∀ x ∈ one, ∀ y ∈ two, mulOk x y = true := fun x hx y hy => (MO.mk (s1 x hx) (s5 y hy) (by decide)).ok
  have mk2 : ∀ x ∈ sumL one two, ∀ y ∈ thr, mulOk x y = true := fun x hx y hy => (MO.mk (sum_sm s1 s5 x hx) (s6 y hy) (by decide)).ok
  have d1 := fun S => s_added (T := T) (n + 1) one two (by omega) (by omega) t1 t5 S
  have d2 := fun S => s_multiplied (T := T) (n + 1) one two (by omega) (by omega) t1 t5 mk1 S
  have d3 := fun S => s_added (T := T) (n + 1) (sumL one two) thr (by omega) (by omega) (trim_idem _) t6 S
  have d4 := fun S => s_multiplied (T := T) (n + 1) (sumL one two) thr (by omega) (by omega) (trim_idem _) t6 mk2 S
  have g1 := fun S => s__law_sum (T := T) (n + 3) false false one two (by omega) (by omega) S
  have g2 := fun S => s__law_times (T := T) (n + 3) false false one two (by omega) (by omega) mk1 S
  have g3 := fun S => s__law_sum (T := T) (n + 3) true true (sumL one two) thr (by omega) (by omega) S
  have g4 := fun S => s__law_times (T := T) (n + 3) true true (sumL one two) thr (by omega) (by omega) mk2 S
  simp only [rwD, Bool.false_eq_true, if_false, if_true] at g1 g2 g3 g4
  have ip := fun S => s_is_polynomial (T := T) (n + 3) (mulL one two) (by omega) (trim_idem _) S
  generalize hS8 : S.set j (some [PyData.int a8, .int b8, .int c8]) = S8 at e8
  obtain ⟨w9, f1⟩ := b1_ok (T := T) n H1 H2 H3 H4 R1 (some (.r j)) (some (.d (.list (one.map PyData.int)))) (some (.d (.list (two.map PyData.int)))) (some (.d (.tuple (thr.map PyData.int)))) none none S8
  obtain ⟨w10, f2⟩ := b1_ok (T := T) n H1 H2 H3 H4 R2 (some (.r j)) (some (.d (.list (one.map PyData.int)))) (some (.d (.list (two.map PyData.int)))) (some (.d (.tuple (thr.map PyData.int)))) w9 none S8
  obtain ⟨w11, f3⟩ := b1_ok (T := T) n H1 H2 H3 H4 R3 (some (.r j)) (some (.d (.list (one.map PyData.int)))) (some (.d (.list (two.map PyData.int)))) (some (.d (.tuple (thr.map PyData.int)))) w10 none S8
  obtain ⟨w12, f4⟩ := b1_ok (T := T) n H1 H2 H3 H4 R4 (some (.r j)) (some (.d (.list (one.map PyData.int)))) (some (.d (.list (two.map PyData.int)))) (some (.d (.tuple (thr.map PyData.int)))) w11 none S8
  have pw : ∀ S : Sto, binU false .Pow (.d (.int 10)) (.d (.int 20)) S = .ok (.d (.int 100000000000000000000)) S := fun S => by rw [q_pow, if_pos (by decide)]; rfl
  have pw6 : ∀ S : Sto, binU false .Pow (.d (.int 10)) (.d (.int 6)) S = .ok (.d (.int 1000000)) S := fun S => by rw [q_pow, if_pos (by decide)]; rfl
  have tk : S8.take S.length = S8 := List.take_of_length_le (by rw [← hS8]; simp)
  refine ⟨a8, b8, c8, ?_⟩
  rw [hS8, call_at t_28 ⟨rfl, by decide⟩]
  rw [c_28]
  simp only [xs_cons, x_par, e_call, es_cons, es_nil, e_var, k_var, List.getElem?_cons_zero, List.getElem?_cons_succ, List.map_cons, List.map_nil, List.cons_append, List.nil_append, List.length_cons, List.length_nil, Nat.reduceAdd, Nat.reduceSub, List.replicate, k_es, k_es2, e_bin, e_con, k_bin, k_bin2, pw, k_call, e1, e2, k_par, setAll, if_true, List.set_cons_zero, List.set_cons_succ, k_sqN, hif]
  simp only [i_zip3, k_z3, k_z3b, k_z3c, z3_cons, z3_nil, k_enT, k_o1r, e_op1, e_op2, e_comp2, k_o1, k_o2, k_o2b, k_db, k_db2, k_dbT, k_dbI1, k_dbI0, k_db1, k_dbN, k_dbM, d_nil, d_cons, i_enum, i_zip, i_rev, k_enL, k_zi, k_ziL, k_ziT, k_rvL, k_rvT, e_var, k_var, x_aug, k_au, k_me, e_con, e_bin, e_neg, e_not, e_and, e_or, e_cmp, e_cmp2, e_ite, e_call, e_callk, e_blt, e_isi, e_idx, e_sl, e_tup, e_lst, e_comp, e_meth, es_nil, es_cons, if_nil, if_cons, o_none, o_some, i_ex, i_r1, i_r2, g_name, g_sub, g_tup, g_tupL, gs_nil, gs_cons, x_asg, x_par, x_ex, x_ret, x_ifs, x_for, x_whl, x_pass, x_brk, x_cont, xs_nil, xs_cons, k_bin, k_bin2, k_neg, k_not, k_not2, k_and, k_and1, k_and0, k_or, k_or1, k_or0, k_cmp, k_cmp2, k_cmp3, k_c2, k_c2b, k_c2t, k_c2f, k_ite, k_ite1, k_ite0, k_call, k_ck, k_ck2, k_blt, k_isi, k_idx, k_idx2, k_sl, k_sl2, k_sl3, k_tup, k_tup2, k_lst, k_lst2, f_nil, f_cons, f_d, k_fz, k_fz2, k_comp, k_comp2, k_me2, k_es, k_es2, k_if, k_if1, k_if0, k_o, k_iL, k_iT, k_iK, k_r1, k_r2, k_r2b, k_sb, k_sb2, k_sb3, k_ts, k_as, k_as2, k_par, k_aug, k_aug2, k_ex, k_ret1, k_ret0, k_ret2, k_ifs, k_ifs1, k_ifs0, k_for, k_fo, k_foN, k_foC, k_foB, k_foR, k_sqN, k_sqC, k_sqB, k_sqR, k_fin, fin_d, fin_nx, c_nil, c_cons, k_cs, k_cs1, k_cs0, k_cs3, k_cs4, k_cs5, fo_nil, fo_cons, sizeL, evT, rb_ok, rb_no, q_add, q_sub, q_cmp, q_lt, q_le, q_gt, q_ge, q_eqI, q_neI, q_eqS, q_neS, q_isB, q_notB, q_isN, q_notN, q_truB, q_truI, q_truL, q_truT, q_truN, q_ixT, q_ixL, q_ixK, q_der, q_at0, q_at1, q_at2, q_at3, q_mkf, q_mkt, q_ixR, k_ixR, k_ix2, q_stR, k_stR, k_st2, q_slK, q_slL, fin_new, take_set, List.set_set, List.length_set, k_sqD0, ix30, ix31, ix32, b_lenL, b_lenT, b_lenK, b_int, b_intB, b_boolI, b_abs, b_max, b_min, b_tupL, b_tupT, b_gcd, b_listL, b_listT, b_listK, b_all, b_any, b_sum, asBools, asInts, Option.map_some, Option.map_none, isiD, List.map_cons, List.map_nil, List.cons_append, List.nil_append, List.append_nil, List.length_cons, List.length_nil, List.getElem?_cons_zero, List.getElem?_cons_succ, List.set_cons_zero, List.set_cons_succ, List.replicate, List.replicate_zero, List.replicate_succ, List.take_length, List.take_succ_cons, Nat.sub_self, setAll, if_true, if_false, Bool.false_eq_true, Nat.reduceAdd, Nat.reduceSub, Nat.reduceLeDiff, Nat.reduceLT, permU, List.filterMap_cons, List.filterMap_nil, wipeE, e6, d1, d2, b_repr _ (rp_row H3), b_repr _ (rp_row H4), g1, g2, decide_true, Bool.not_true, d3, g3, b_repr _ (rp_row H5), d4, g4, b_repr _ (rp_row H6), ip, e7, pw6, e8, f1, f2, f3, f4, b_repr _ (rp_rows H1 H2), tk]
/-! ### the law -/
theorem f__law (n : Nat) (ns : List Int) (hl : ns.length ≤ 63) : ∀ (l : List Nat) (S : Sto) (o : Option U), ∃ S', compE (call T (n + 6)) [some (.k (ns.map PyData.int)), o] [1] (.name 1) .nil (.call 28 (.cons (.call 15 (.cons (.var 0) (.cons (.var 1) .nil))) .nil)) [] (l.map fun (k : Nat) => PyData.int (k : Int)) S = .ok (l.map fun _ => PyData.bool true) S'
  | [], S, o => ⟨S, by simp only [List.map_nil, c_nil]⟩
  | k :: l, S, o => by
    obtain ⟨a, b, c, e⟩ := s__law_source (T := T) (n + 5) S ns hl k
    have hS : (S ++ [some [PyData.int a, PyData.int b, PyData.int c]])[S.length]? = some (some [.int a, .int b, .int c]) := by simp
    obtain ⟨a', b', c', e2⟩ := s__law_right (T := T) n hS
    obtain ⟨S', e3⟩ := f__law n ns hl l ((S ++ [some [PyData.int a, PyData.int b, PyData.int c]]).set S.length (some [.int a', .int b', .int c'])) o
    refine ⟨S', ?_⟩
    simp only [List.map_cons, c_cons]
    simp only [i_zip3, k_z3, k_z3b, k_z3c, z3_cons, z3_nil, k_enT, k_o1r, e_op1, e_op2, e_comp2, k_o1, k_o2, k_o2b, k_db, k_db2, k_dbT, k_dbI1, k_dbI0, k_db1, k_dbN, k_dbM, d_nil, d_cons, i_enum, i_zip, i_rev, k_enL, k_zi, k_ziL, k_ziT, k_rvL, k_rvT, e_var, k_var, x_aug, k_au, k_me, e_con, e_bin, e_neg, e_not, e_and, e_or, e_cmp, e_cmp2, e_ite, e_call, e_callk, e_blt, e_isi, e_idx, e_sl, e_tup, e_lst, e_comp, e_meth, es_nil, es_cons, if_nil, if_cons, o_none, o_some, i_ex, i_r1, i_r2, g_name, g_sub, g_tup, g_tupL, gs_nil, gs_cons, x_asg, x_par, x_ex, x_ret, x_ifs, x_for, x_whl, x_pass, x_brk, x_cont, xs_nil, xs_cons, k_bin, k_bin2, k_neg, k_not, k_not2, k_and, k_and1, k_and0, k_or, k_or1, k_or0, k_cmp, k_cmp2, k_cmp3, k_c2, k_c2b, k_c2t, k_c2f, k_ite, k_ite1, k_ite0, k_call, k_ck, k_ck2, k_blt, k_isi, k_idx, k_idx2, k_sl, k_sl2, k_sl3, k_tup, k_tup2, k_lst, k_lst2, f_nil, f_cons, f_d, k_fz, k_fz2, k_comp, k_comp2, k_me2, k_es, k_es2, k_if, k_if1, k_if0, k_o, k_iL, k_iT, k_iK, k_r1, k_r2, k_r2b, k_sb, k_sb2, k_sb3, k_ts, k_as, k_as2, k_par, k_aug, k_aug2, k_ex, k_ret1, k_ret0, k_ret2, k_ifs, k_ifs1, k_ifs0, k_for, k_fo, k_foN, k_foC, k_foB, k_foR, k_sqN, k_sqC, k_sqB, k_sqR, k_fin, fin_d, fin_nx, c_nil, c_cons, k_cs, k_cs1, k_cs0, k_cs3, k_cs4, k_cs5, fo_nil, fo_cons, sizeL, evT, rb_ok, rb_no, q_add, q_sub, q_cmp, q_lt, q_le, q_gt, q_ge, q_eqI, q_neI, q_eqS, q_neS, q_isB, q_notB, q_isN, q_notN, q_truB, q_truI, q_truL, q_truT, q_truN, q_ixT, q_ixL, q_ixK, q_der, q_at0, q_at1, q_at2, q_at3, q_mkf, q_mkt, q_ixR, k_ixR, k_ix2, q_stR, k_stR, k_st2, q_slK, q_slL, fin_new, take_set, List.set_set, List.length_set, k_sqD0, ix30, ix31, ix32, b_lenL, b_lenT, b_lenK, b_int, b_intB, b_boolI, b_abs, b_max, b_min, b_tupL, b_tupT, b_gcd, b_listL, b_listT, b_listK, b_all, b_any, b_sum, asBools, asInts, Option.map_some, Option.map_none, isiD, List.map_cons, List.map_nil, List.cons_append, List.nil_append, List.append_nil, List.length_cons, List.length_nil, List.getElem?_cons_zero, List.getElem?_cons_succ, List.set_cons_zero, List.set_cons_succ, List.replicate, List.replicate_zero, List.replicate_succ, List.take_length, List.take_succ_cons, Nat.sub_self, setAll, if_true, if_false, Bool.false_eq_true, Nat.reduceAdd, Nat.reduceSub, Nat.reduceLeDiff, Nat.reduceLT, permU, List.filterMap_cons, List.filterMap_nil, wipeE, e, e2, e3]
theorem s_law (n : Nat) (ns : List Int) (hl : ns.length ≤ 63) : ∃ S', call T (n + 7) 29 [.k (ns.map PyData.int)] [] = .ok (.d (.bool true)) S' := by
  obtain ⟨S', e⟩ := f__law (T := T) n ns hl (List.range 3) [] none
  have r : List.range 3 = [0, 1, 2] := rfl
  rw [r] at e
  simp only [List.map_cons, List.map_nil, Int.ofNat_zero, Int.cast_ofNat_Int] at e
  have h1 : -(2 ^ 62 : Int) ≤ 3 ∧ (3 : Int) < 2 ^ 62 := by decide
  have i3 : intsD 0 (3 : Int).toNat = [.int 0, .int 1, .int 2] := rfl
  refine ⟨S'.take 0, ?_⟩
  rw [call_at t_29 ⟨rfl, by decide⟩]
  simp only [c_29, x_ret, xs_cons, e_blt, es_cons, e_comp, i_r1, e_con, k_r1, h1, and_self, if_true, i3, k_comp, List.length_cons, List.length_nil, sizeL, Nat.reduceAdd, Nat.reduceLT, List.map_cons, List.map_nil, List.cons_append, List.nil_append, Nat.sub_self, Nat.reduceSub, List.replicate, e, k_comp2, q_mkf]
  simp only [i_zip3, k_z3, k_z3b, k_z3c, z3_cons, z3_nil, k_enT, k_o1r, e_op1, e_op2, e_comp2, k_o1, k_o2, k_o2b, k_db, k_db2, k_dbT, k_dbI1, k_dbI0, k_db1, k_dbN, k_dbM, d_nil, d_cons, i_enum, i_zip, i_rev, k_enL, k_zi, k_ziL, k_ziT, k_rvL, k_rvT, e_var, k_var, x_aug, k_au, k_me, e_con, e_bin, e_neg, e_not, e_and, e_or, e_cmp, e_cmp2, e_ite, e_call, e_callk, e_blt, e_isi, e_idx, e_sl, e_tup, e_lst, e_comp, e_meth, es_nil, es_cons, if_nil, if_cons, o_none, o_some, i_ex, i_r1, i_r2, g_name, g_sub, g_tup, g_tupL, gs_nil, gs_cons, x_asg, x_par, x_ex, x_ret, x_ifs, x_for, x_whl, x_pass, x_brk, x_cont, xs_nil, xs_cons, k_bin, k_bin2, k_neg, k_not, k_not2, k_and, k_and1, k_and0, k_or, k_or1, k_or0, k_cmp, k_cmp2, k_cmp3, k_c2, k_c2b, k_c2t, k_c2f, k_ite, k_ite1, k_ite0, k_call, k_ck, k_ck2, k_blt, k_isi, k_idx, k_idx2, k_sl, k_sl2, k_sl3, k_tup, k_tup2, k_lst, k_lst2, f_nil, f_cons, f_d, k_fz, k_fz2, k_comp, k_comp2, k_me2, k_es, k_es2, k_if, k_if1, k_if0, k_o, k_iL, k_iT, k_iK, k_r1, k_r2, k_r2b, k_sb, k_sb2, k_sb3, k_ts, k_as, k_as2, k_par, k_aug, k_aug2, k_ex, k_ret1, k_ret0, k_ret2, k_ifs, k_ifs1, k_ifs0, k_for, k_fo, k_foN, k_foC, k_foB, k_foR, k_sqN, k_sqC, k_sqB, k_sqR, k_fin, fin_d, fin_nx, c_nil, c_cons, k_cs, k_cs1, k_cs0, k_cs3, k_cs4, k_cs5, fo_nil, fo_cons, sizeL, evT, rb_ok, rb_no, q_add, q_sub, q_cmp, q_lt, q_le, q_gt, q_ge, q_eqI, q_neI, q_eqS, q_neS, q_isB, q_notB, q_isN, q_notN, q_truB, q_truI, q_truL, q_truT, q_truN, q_ixT, q_ixL, q_ixK, q_der, q_at0, q_at1, q_at2, q_at3, q_mkf, q_mkt, q_ixR, k_ixR, k_ix2, q_stR, k_stR, k_st2, q_slK, q_slL, fin_new, take_set, List.set_set, List.length_set, k_sqD0, ix30, ix31, ix32, b_lenL, b_lenT, b_lenK, b_int, b_intB, b_boolI, b_abs, b_max, b_min, b_tupL, b_tupT, b_gcd, b_listL, b_listT, b_listK, b_all, b_any, b_sum, asBools, asInts, Option.map_some, Option.map_none, isiD, List.map_cons, List.map_nil, List.cons_append, List.nil_append, List.append_nil, List.length_cons, List.length_nil, List.getElem?_cons_zero, List.getElem?_cons_succ, List.set_cons_zero, List.set_cons_succ, List.replicate, List.replicate_zero, List.replicate_succ, List.take_length, List.take_succ_cons, Nat.sub_self, setAll, if_true, if_false, Bool.false_eq_true, Nat.reduceAdd, Nat.reduceSub, Nat.reduceLeDiff, Nat.reduceLT, permU, List.filterMap_cons, List.filterMap_nil, wipeE]
  rfl
end My

namespace My
open PySem L2 Ev
/-- every script -/
theorem true_at (ns : List Int) : ns.length ≤ 63 → (∀ z ∈ ns, Builtin.Int.intBits z ≤ 1048576) → ∃ S', call (mkT c0 fis fn) (6 + 1) 29 [.k (ns.map PyData.int)] [] = .ok (.d (.bool true)) S' := fun h1 h2 => @s_law TT tb 0 ns h1
end My
open PySem PySem.W PySem.Calls PyProof.Rows
theorem PySem.Challenge.cw_steamlinks_k34_whole_polynomials_added_a_holds : PySem.Challenge.rw_steamlinks_k34_whole_polynomials_added_a.Holds := by
  w_on; o_law
  refine HandSHeadRun.head_imp (r := OpenLaw.row PySem.Challenge.rw_steamlinks_k34_whole_polynomials_added_a) (q := view (OpenLaw.row PySem.Challenge.rw_steamlinks_k34_whole_polynomials_added_a).prog [0, 37]) (H := My.hk) (ob := My.obs) (M := 40000) (loose := My.loose) (d := HandSHeadRun.topDef (OpenLaw.row PySem.Challenge.rw_steamlinks_k34_whole_polynomials_added_a).prog 37) (kwd := []) My.obs_eq My.run (by kernel_rfl)
    (by kernel_rfl) (by kernel_rfl) (by rfl) (by first | assumption | decide +kernel) (by decide +kernel) ⟨rfl, rfl, rfl, rfl, rfl, by decide +kernel⟩ ?hw ?hc
  case hw => w_witness2
  case hc => exact Ev.walk_ev (l := PySem.Challenge.rw_steamlinks_k34_whole_polynomials_added_a) (n := 63) (c0 := My.c0) (fis := My.fis) (fn := My.fn) (i := 29) (k := 6) rfl (by decide) (by kernel_rfl) ⟨rfl, by decide, by decide⟩ rfl ⟨[], rfl⟩ My.okt My.bl (by kernel_rfl) (by decide +kernel) My.true_at
