import PyProof.Rows.All
import HandS.Comp
import HandS.Words
import HandS.ForMost
import HandS.ForSpec
import HandS.TupMul
import HandS.Dict
import HandS.DictComp
import KE.KDictPairs
import HandS.SortInts
import HandS.SortOrd
import HandS.TupSets
import HandS.Conv
import HandS.Flow
import HandS.Wide
import HandS.Style
import HandS.Deep
import HandS.TupAny
import HandS.RaiseMore
import HandS.IsInst
import HandS.Text
import HandS.Iter
import HandS.ExcOwn
import HandS.TupLen
import PyProof.ReprRoads
import HandS.More
import HandS.WideBits
import HandS.Walk
import KE.GoesEnum
import KE.GoesMore
import HandS.Zip
import HandS.TryOnly
import HandS.WordsExc
import PyProof.Rows.RuleB_and
import PyProof.Rows.RuleB_or
import PyProof.Rows.RuleB_xor
import PyProof.Rows.RuleB_mul
import PyProof.Rows.RuleB_floordiv
import PyProof.ExcBaseAll.ValueError
import HandS.HotCalls
import HandS.ExcIs
import HandS.SetFor
import HandS.EndBits
import KE.OsArith
import PyProof.StrLawsRepr
import PyProof.Rows.RegStrFacts
import KE.KExcLine
import PySem.Challenge.RW_switchrest_k02_roads_and_rounds
set_option Elab.async false
set_option linter.all false
set_option maxRecDepth 100000
set_option exponentiation.threshold 10000
set_option maxHeartbeats 8000000
/-! A small language of plain values, to which the program's defs are brought: no heap, lists by their contents, a list of one's own grows in place. -/
namespace PI
open PySem

/-- a plain value -/
inductive D where
  | non | bl (b : Bool) | int (i : Int) | str (x : Str) | tup (xs : List D) | lst (xs : List D) | dic (t : Bool) (ks vs : List D) | gl (n : Nat) | scr (xs : List D)
  deriving Inhabited

/-- a name's place: nothing, a value, a list of one's own (mode 0: free to be given away; 1: the caller's), one that is walked just now -/
inductive Sl where
  | no | val (d : D) | own (m : Nat) (d : D) | lent (d : D)
  deriving Inhabited
abbrev Rho := List Sl

inductive Out (α : Type) where
  | ok (a : α) | err (c : Nat) (pl : List D) (r : Rho) | bad
def Out.bind {α β : Type} (x : Out α) (f : α → Out β) : Out β := match x with
  | .ok a => f a
  | .err c pl r => .err c pl r
  | .bad => .bad
instance : Monad Out where
  pure := .ok
  bind := Out.bind
@[simp] theorem bind_ok {α β : Type} (a : α) (f : α → Out β) : (Out.ok a >>= f) = f a := rfl
@[simp] theorem bind_err {α β : Type} (c : Nat) (pl : List D) (r : Rho) (f : α → Out β) : ((Out.err c pl r : Out α) >>= f) = .err c pl r := rfl
@[simp] theorem bind_bad {α β : Type} (f : α → Out β) : ((Out.bad : Out α) >>= f) = .bad := rfl
@[simp] theorem pure_ok {α : Type} (a : α) : (pure a : Out α) = .ok a := rfl
def ofO {α : Type} : Option α → Out α
  | some a => .ok a
  | none => .bad
@[simp] theorem ofO_some {α : Type} (a : α) : ofO (some a) = .ok a := rfl
@[simp] theorem ofO_none {α : Type} : ofO (none : Option α) = .bad := rfl

/-- what a call gives: the value, whether it is a new list, the caller's list behind it; or an error's class and what it carries -/
inductive COut where
  | ok (d : D) (fr : Bool) (io : D) | err (c : Nat) (pl : List D) | bad

/-- what an expression gives: a value, a new list, the list of one's own at a place -/
inductive R where
  | dat (d : D) | fre (d : D) | pl (i : Nat)
  deriving Inhabited

/-- built-ins by name, and methods that change nothing -/
inductive B where
  | len | sum | all | any | tuple | list | sorted | min | max | int | bool | str | repr | abs | dict | index | count | bitLength | join | split | get0 | get1 | startswith | endswith
  | items | values | keys
  deriving DecidableEq, Inhabited
/-- methods that change a list of one's own -/
inductive Mu where
  | append | extend | pop | popAt | reverse | update | setdefault
  deriving DecidableEq, Inhabited

inductive G where
  | name (i : Nat) | tup (gs : List G)
  deriving Inhabited

mutual
inductive E where
  | var (i : Nat)
  | con (d : D)
  | op (o : Operator) (a b : E)
  | un (o : UnaryOp) (a : E)
  | cmp (o : CmpOp) (a b : E)
  | chain (o o' : CmpOp) (a b c : E)
  | chain3 (o o' o'' : CmpOp) (a b c d : E)
  | and (a b : E) | or (a b : E) | not (a : E)
  | ite (c a b : E)
  | tup (es : List E) | lst (es : List E)
  | ix (a i : E)
  | sl (a : E) (lo hi : Option E)
  | call (f : Nat) (es : List E)
  | callio (f i : Nat) (es : List E)
  | menu (fs : List Nat) (i : E) (es : List E)
  | blt (b : B) (es : List E)
  | isa (a : E) (t : Nat)
  | mth (b : B) (o : E) (es : List E)
  | dsp (es : List E)
  | dnew
  | spl (t : Bool) (es : List E) (st : List Bool)
  | rev (a : E)
  | mut (m : Mu) (i : Nat) (es : List E)
  | rngL (t : Bool) (a b : E)
  | rngV (a b : E)
  | comp (elt : E) (g : G) (it : I) (c : Option E) (vs : List Nat)
  | dcomp (kx vx : E) (g : G) (it : I) (c : Option E) (vs : List Nat)
inductive I where
  | seq (e : E)
  | rng1 (a : E) | rng2 (a b : E)
  | enum (e : E)
  | zip2 (a b : E)
end
inductive S where
  | asg (g : G) (e : E)
  | par (js : List Nat) (es : List E)
  | aug (i : Nat) (o : Operator) (e : E)
  | setix (i : Nat) (j e : E)
  | ex (e : E)
  | ret (e : E) | retN
  | ite (c : E) (a b : List S)
  | for_ (g : G) (it : I) (b : List S)
  | whl (c : E) (b : List S)
  | brk | cnt | pass
  | raise (c : Nat) (es : List E)
  | try_ (b : List S) (c : Nat) (d : D)
  | tryk (b : List S) (c : Nat) (tbl : List D)

/-! ### values -/
mutual
def D.toPy : D → PyData
  | .non => .none
  | .bl b => .bool b
  | .int i => .int i
  | .str x => .str x
  | .tup xs => .tuple (D.toPys xs)
  | .lst xs => .list (D.toPys xs)
  | .dic _ _ _ => .none
  | .gl _ => .none
  | .scr _ => .none
def D.toPys : List D → List PyData
  | [] => []
  | x :: xs => x.toPy :: D.toPys xs
end
mutual
/-- data that == and repr take: no dict, no def -/
def D.plain : D → Bool
  | .tup xs => D.plains xs
  | .lst xs => D.plains xs
  | .dic _ _ _ => false
  | .gl _ => false
  | .scr _ => false
  | .str x => x.cps.all (· < 0x110000)
  | _ => true
def D.plains : List D → Bool
  | [] => true
  | x :: xs => x.plain && D.plains xs
end
mutual
def D.dep : D → Nat
  | .tup xs => D.deps xs + 1
  | .lst xs => D.deps xs + 1
  | _ => 0
def D.deps : List D → Nat
  | [] => 0
  | x :: xs => max x.dep (D.deps xs)
end
mutual
def D.eqv : D → D → Bool
  | .non, .non => true
  | .bl a, .bl b => a == b
  | .bl a, .int b => (if a then 1 else 0) == b
  | .int a, .bl b => a == (if b then 1 else 0)
  | .int a, .int b => a == b
  | .str a, .str b => a == b
  | .tup a, .tup b => D.eqvs a b
  | .lst a, .lst b => D.eqvs a b
  | _, _ => false
def D.eqvs : List D → List D → Bool
  | [], [] => true
  | x :: xs, y :: ys => x.eqv y && D.eqvs xs ys
  | _, _ => false
end
def fit (d : D) : Bool := d.plain && decide (d.dep ≤ 60)
def eqD (x y : D) : Option Bool := if fit x && fit y then some (x.eqv y) else none

def ints? : List D → Option (List Int)
  | [] => some []
  | .int i :: r => (ints? r).map (i :: ·)
  | _ => none
def bls? : List D → Option (List Bool)
  | [] => some []
  | .bl i :: r => (bls? r).map (i :: ·)
  | _ => none
def strs? : List D → Option (List Str)
  | [] => some []
  | .str i :: r => (strs? r).map (i :: ·)
  | _ => none
def iTup : List Int → List Int → Bool
  | [], [] => false
  | [], _ :: _ => true
  | _ :: _, [] => false
  | x :: xs, y :: ys => if x = y then iTup xs ys else decide (x < y)

def truthD : D → Option Bool
  | .non => some false
  | .bl b => some b
  | .int i => some (i != 0)
  | .str x => if x.length ≤ sizeLine then some (x.length != 0) else none
  | .tup xs => some (!xs.isEmpty)
  | .lst xs => some (!xs.isEmpty)
  | .dic _ _ _ => none
  | .gl _ => none
  | .scr _ => none

def mulOk (i j : Int) : Bool := decide ((-(2 ^ 64) < i ∧ i < 2 ^ 64) ∨ (-(2 ^ 64) < j ∧ j < 2 ^ 64) ∨ i.natAbs.log2 + j.natAbs.log2 < 1000000)
def shOk (i j : Int) : Bool := decide (0 ≤ j ∧ j ≤ 1000000 ∧ i.natAbs < 2 ^ 64)
def divOk (j : Int) : Bool := decide (0 < j ∧ j.natAbs.log2 < 9000)
def iop (o : Operator) (i j : Int) : Option Int := match o with
  | .Add => some (i + j)
  | .Sub => some (i - j)
  | .Mult => if mulOk i j then some (i * j) else none
  | .FloorDiv => if divOk j then some (i / j) else none
  | .Mod => if 0 < j then some (i % j) else none
  | .Pow => if shOk i j then some (i ^ j.toNat) else none
  | .LShift => if shOk i j then some (i * 2 ^ j.toNat) else none
  | .RShift => if 0 ≤ j then some (i / 2 ^ j.toNat) else none
  | .BitAnd => some (Builtin.bitAnd i j)
  | .BitOr => some (Builtin.bitOr i j)
  | .BitXor => some (Builtin.bitXor i j)
  | _ => none
/-- .. where a name is changed -/
def iopA (o : Operator) (i j : Int) : Option Int := match o with
  | .Add => some (i + j)
  | .Sub => some (i - j)
  | .Mult => if mulOk i j then some (i * j) else none
  | .FloorDiv => if divOk j then some (i / j) else none
  | .BitAnd => some (Builtin.bitAnd i j)
  | .BitOr => some (Builtin.bitOr i j)
  | .BitXor => some (Builtin.bitXor i j)
  | _ => none
def repL (xs : List D) (k : Int) : Option (List D) := if -(2 ^ 63) ≤ k ∧ k < 2 ^ 63 ∧ xs.length * k.toNat ≤ sizeLine then some (List.replicate k.toNat xs).flatten else none
def opD (o : Operator) (x y : D) : Option R := match x, y with
  | .int i, .int j => (iop o i j).map fun k => .dat (.int k)
  | .str a, .str b => match o with
    | .Add => if a.length + b.length ≤ sizeLine then some (.dat (.str (a ++ b))) else none
    | _ => none
  | .lst a, .lst b => match o with
    | .Add => if a.length + b.length ≤ sizeLine then some (.fre (.lst (a ++ b))) else none
    | _ => none
  | .tup a, .tup b => match o with
    | .Add => if a.length + b.length ≤ sizeLine then some (.dat (.tup (a ++ b))) else none
    | _ => none
  | .lst a, .int k => match o with
    | .Mult => (repL a k).map fun l => .fre (.lst l)
    | _ => none
  | .tup a, .int k => match o with
    | .Mult => if a ≠ [] ∧ 1 ≤ k ∧ k ≤ 1000 ∧ a.length ≤ 1000 then some (.dat (.tup (List.replicate k.toNat a).flatten)) else none
    | _ => none
  | _, _ => none
def unD (o : UnaryOp) (x : D) : Option D := match o, x with
  | .USub, .int i => some (.int (-i))
  | .Invert, .int i => some (.int (Builtin.bitNot i))
  | _, _ => none
def inL (x : D) (l : List D) : Option Bool := if fit x && fit (.lst l) then some (l.any fun y => y.eqv x) else none
/-- a dict's key: an int, a text; a tuple of them -/
def keyA : D → Bool
  | .int _ => true
  | .str _ => true
  | _ => false
def keyOk : Bool → D → Bool
  | false, d => keyA d
  | true, .tup xs => xs.all keyA
  | true, _ => false
def tupK : D → Bool
  | .tup _ => true
  | _ => false
/-- a dict's kind of keys, an empty one's by the key at hand -/
def kindK (t : Bool) (ks : List D) (y : D) : Bool := if ks.isEmpty then tupK y else t
def inD (x y : D) : Option Bool := match y with
  | .lst l => inL x l
  | .tup l => inL x l
  | .str s => match x with
    | .str a => some (!(Builtin.Str.occurrences s a 0 s.length 1).isEmpty)
    | _ => none
  | .dic t ks _ => if keyOk (kindK t ks x) x then some (ks.any fun k => k.eqv x) else none
  | _ => none
def icmp (o : CmpOp) (i j : Int) : Option Bool := match o with
  | .Eq => some (decide (i = j))
  | .NotEq => some (!decide (i = j))
  | .Lt => some (decide (i < j))
  | .LtE => some (decide (i ≤ j))
  | .Gt => some (decide (j < i))
  | .GtE => some (decide (j ≤ i))
  | _ => none
def isNon : D → Bool
  | .non => true
  | _ => false
def cmpD (o : CmpOp) (x y : D) : Option Bool := match o with
  | .Eq => match x, y with
    | .int i, .int j => some (decide (i = j))
    | _, _ => eqD x y
  | .NotEq => match x, y with
    | .int i, .int j => some (!decide (i = j))
    | _, _ => (eqD x y).map (!·)
  | .In => inD x y
  | .NotIn => (inD x y).map (!·)
  | .Is => match y with
    | .non => some (isNon x)
    | .bl true => match x with | .bl b => some b | _ => none
    | _ => none
  | .IsNot => match y with
    | .non => some (!isNon x)
    | .bl true => match x with | .bl b => some (!b) | _ => none
    | _ => none
  | o => match x, y with
    | .int i, .int j => icmp o i j
    | .str a, .str b => match o with
      | .Lt => some (decide (a.cps.toList < b.cps.toList))
      | .LtE => some (!decide (b.cps.toList < a.cps.toList))
      | _ => none
    | _, _ => none
def ixOf (n : Nat) (i : Int) : Option Nat := if 0 ≤ i then (if i < n then some i.toNat else none) else if -(n : Int) ≤ i then some (i + n).toNat else none
def lookD : List D → List D → D → Option D
  | k :: ks, v :: vs, y => if k.eqv y then some v else lookD ks vs y
  | _, _, _ => none
/-- a pair put into a dict -/
def replD (k v : D) : List D → List D → List D
  | x :: ks, y :: vs => (if x.eqv k then v else y) :: replD k v ks vs
  | _, _ => []
def putD (k v : D) (ks vs : List D) : List D × List D := if ks.any (fun x => x.eqv k) then (ks, replD k v ks vs) else (ks ++ [k], vs ++ [v])
/-- pairs, one behind the other, put into a dict -/
def putsD : List D → List D → List D → Option (List D × List D)
  | ks, vs, [] => some (ks, vs)
  | ks, vs, k :: v :: r => if keyA k then putsD (putD k v ks vs).1 (putD k v ks vs).2 r else none
  | _, _, _ => none
def ixD (x i : D) : Option D := match x, i with
  | .dic t ks vs, y => if keyOk t y then lookD ks vs y else none
  | .lst xs, .int k => (ixOf xs.length k).bind fun j => xs[j]?
  | .tup xs, .int k => (ixOf xs.length k).bind fun j => xs[j]?
  | .str s, .int k => if s.length ≤ sizeLine then (ixOf s.cps.toList.length k).bind fun j => (s.cps.toList[j]?).map fun c => .str ⟨#[c]⟩ else none
  | _, _ => none
def clip (n d : Nat) : Option Int → Nat
  | none => d
  | some v => (if v < 0 then max (v + n) 0 else min v n).toNat
def cutL {α : Type} (xs : List α) (lo hi : Option Int) : List α := (xs.drop (clip xs.length 0 lo)).take (clip xs.length xs.length hi - clip xs.length 0 lo)
def slD (x : D) (lo hi : Option Int) : Option R := match x with
  | .lst xs => some (.fre (.lst (cutL xs lo hi)))
  | .tup xs => some (.dat (.tup (cutL xs lo hi)))
  | .str s => if s.length ≤ sizeLine then some (.dat (.str ⟨(cutL s.cps.toList lo hi).toArray⟩)) else none
  | _ => none
def parts? : D → Option (List D)
  | .lst l => some l
  | .tup l => some l
  | _ => none
def revD : D → Option R
  | .lst l => some (.fre (.lst l.reverse))
  | .tup l => some (.dat (.tup l.reverse))
  | _ => none
def int? : D → Option Int
  | .int i => some i
  | _ => none

def seq? : D → Option (List D)
  | .lst xs => some xs
  | .scr xs => some xs
  | .tup xs => some xs
  | _ => none
def shw (d : D) : Str := d.toPy.shown
def insI (x : Int) : List Int → List Int
  | [] => [x]
  | y :: ys => if x ≤ y then x :: y :: ys else y :: insI x ys
def srtI : List Int → List Int
  | [] => []
  | x :: xs => insI x (srtI xs)
/-- tuples of ints, none of them empty -/
def tupsI? : List D → Option (List (List Int))
  | [] => some []
  | .tup xs :: r => match ints? xs with
    | some (n :: ns) => (tupsI? r).map fun l => (n :: ns) :: l
    | _ => none
  | _ => none
def insT (x : List Int) : List (List Int) → List (List Int)
  | [] => [x]
  | y :: ys => if iTup y x then y :: insT x ys else x :: y :: ys
def srtT : List (List Int) → List (List Int)
  | [] => []
  | x :: xs => insT x (srtT xs)
def tupI (ns : List Int) : D := .tup (ns.map .int)
def maxI : Int → List Int → Int
  | m, [] => m
  | m, x :: xs => maxI (if m < x then x else m) xs
def minI : Int → List Int → Int
  | m, [] => m
  | m, x :: xs => minI (if x < m then x else m) xs
/-- whose method it is -/
def kindM : B → D → Option Unit
  | .index, .lst _ => some ()
  | .bitLength, .int _ => some ()
  | _, _ => none
def findD (y : D) : List D → Option Nat
  | [] => none
  | x :: xs => if x.eqv y then some 0 else (findD y xs).map (· + 1)
def dsp : D → Bool
  | .int _ => true
  | .tup _ => true
  | .lst _ => true
  | .bl _ => true
  | .str _ => true
  | .non => true
  | _ => false
/-- pairs, one behind the other -/
def pairsD : List D → Option (List D)
  | [] => some []
  | .tup [k, v] :: r => (pairsD r).map fun l => k :: v :: l
  | _ => none
def putsG (t : Bool) (ks vs : List D) : List D → Option (Bool × List D × List D)
  | [] => some (t, ks, vs)
  | k :: v :: r => if keyOk (kindK t ks k) k = true ∧ ks.length < sizeLine then putsG (kindK t ks k) (putD k v ks vs).1 (putD k v ks vs).2 r else none
  | _ => none
def bltD (b : B) (xs : List D) : Option R := match b, xs with
  | .len, [.str s] => if s.length ≤ sizeLine then some (.dat (.int s.length)) else none
  | .len, [.lst l] => some (.dat (.int l.length))
  | .len, [.tup l] => some (.dat (.int l.length))
  | .len, [.dic _ l _] => some (.dat (.int l.length))
  | .sum, [.lst l] => (ints? l).map fun ns => .dat (.int ns.sum)
  | .all, [.lst l] => (bls? l).map fun ns => .dat (.bl (ns.all id))
  | .any, [.lst l] => (bls? l).map fun ns => .dat (.bl (ns.any id))
  | .tuple, [.lst l] => some (.dat (.tup l))
  | .tuple, [.tup l] => some (.dat (.tup l))
  | .list, [.lst l] => some (.fre (.lst l))
  | .list, [.tup l] => some (.fre (.lst l))
  | .sorted, [.lst l] => match ints? l with
    | some ns => some (.fre (.lst ((srtI ns).map .int)))
    | none => (tupsI? l).map fun nss => .fre (.lst ((srtT nss).map tupI))
  | .sorted, [.dic false ks _] => if ks.length < 64 then (ints? ks).map fun ns => .fre (.lst ((srtI ns).map .int)) else none
  | .sorted, [.dic true ks _] => (tupsI? ks).map fun nss => .fre (.lst ((srtT nss).map tupI))
  | .min, [.lst l] => match ints? l with
    | some (n :: ns) => some (.dat (.int (minI n ns)))
    | _ => none
  | .max, [.lst l] => match ints? l with
    | some (n :: ns) => some (.dat (.int (maxI n ns)))
    | _ => none
  | .min, [.int i, .int j] => some (.dat (.int (if j < i then j else i)))
  | .max, [.int i, .int j] => some (.dat (.int (if i < j then j else i)))
  | .int, [.int i] => some (.dat (.int i))
  | .int, [.bl c] => some (.dat (.int (if c then 1 else 0)))
  | .abs, [.int i] => some (.dat (.int (if i < 0 then -i else i)))
  | .str, [.int i] => if i.natAbs.log2 < 1920 then some (.dat (.str (toString i))) else none
  | .repr, [x] => if dsp x && x.plain && decide (x.dep ≤ 60) && x.toPy.showable && decide ((shw x).length ≤ sizeLine) then some (.dat (.str (shw x))) else none
  | .index, [.lst l, y] => if fit y && fit (.lst l) then (findD y l).map fun (j : Nat) => .dat (.int (j : Nat)) else none
  | .bitLength, [.int i] => some (.dat (.int ((Builtin.Int.intBits i : Nat) : Int)))
  | .dict, [.lst l] => ((pairsD l).bind (putsG false [] [])).map fun p => .fre (.dic p.1 p.2.1 p.2.2)
  | .count, [.lst l, .bl c] => (bls? l).map fun ns => .dat (.int ((ns.filter fun z => z == c).length : Nat))
  | _, _ => none

def rgD (i k : Int) : List D := (List.range (k - i).toNat).map fun j => .int (i + (j : Nat))
def rgB (i k : Int) : Bool := decide (-(2 ^ 62) ≤ i ∧ i < 2 ^ 62 ∧ -(2 ^ 62) ≤ k ∧ k < 2 ^ 62 ∧ (k - i).toNat ≤ 2 ^ 24)
/-! ### places -/
def fetch (ρ : Rho) : R → Option D
  | .dat d => some d
  | .fre d => some d
  | .pl i => match ρ[i]? with
    | some (.own _ d) => some d
    | some (.lent d) => some d
    | some (.val d) => some d
    | _ => none
/-- given away: a list of one's own turns into a value -/
def give (ρ : Rho) : R → Option (D × Rho)
  | .dat d => some (d, ρ)
  | .fre d => some (d, ρ)
  | .pl i => match ρ[i]? with
    | some (.own 0 d) => some (d, ρ.set i (.val d))
    | some (.val d) => some (d, ρ)
    | _ => none
def rdVar (i : Nat) (ρ : Rho) : Option R := match ρ[i]? with
  | some (.val d) => some (.dat d)
  | some (.own _ _) => some (.pl i)
  | some (.lent _) => some (.pl i)
  | _ => none
def ownAt (i : Nat) (ρ : Rho) : Option Unit := match ρ[i]? with
  | some (.own _ (.lst _)) => some ()
  | _ => none
/-- a list or a dict of one's own -/
def ownAny (i : Nat) (ρ : Rho) : Option Unit := match ρ[i]? with
  | some (.own _ (.lst _)) => some ()
  | some (.own _ (.dic _ _ _)) => some ()
  | _ => none
def stVar (i : Nat) (s : Sl) (ρ : Rho) : Option Rho := match ρ[i]? with
  | some .no => some (ρ.set i s)
  | some (.val _) => some (ρ.set i s)
  | some (.own 0 _) => some (ρ.set i s)
  | _ => none
mutual
/-- the places of a target -/
def G.sub : G → List Nat → Bool
  | .name i, vs => vs.contains i
  | .tup gs, vs => G.subs gs vs
def G.subs : List G → List Nat → Bool
  | [], _ => true
  | g :: gs, vs => g.sub vs && G.subs gs vs
end
mutual
def bindG : G → D → Rho → Option Rho
  | .name i, d, ρ => stVar i (.val d) ρ
  | .tup gs, .tup ds, ρ => bindGs gs ds ρ
  | .tup gs, .lst ds, ρ => bindGs gs ds ρ
  | _, _, _ => none
def bindGs : List G → List D → Rho → Option Rho
  | [], [], ρ => some ρ
  | g :: gs, d :: ds, ρ => (bindG g d ρ).bind (bindGs gs ds)
  | _, _, _ => none
end
def muD (m : Mu) (d : D) (xs : List D) : Option (D × D) := match m, d, xs with
  | .append, .lst l, [x] => if l.length < sizeLine then some (.non, .lst (l ++ [x])) else none
  | .extend, .lst l, [.lst k] => if l.length + k.length ≤ sizeLine then some (.non, .lst (l ++ k)) else none
  | .pop, .lst l, [] => match l.getLast? with
    | some x => some (x, .lst l.dropLast)
    | none => none
  | .reverse, .lst l, [] => some (.non, .lst l.reverse)
  | _, _, _ => none

def wipeR (ρ : Rho) (vs : List Nat) : Rho := vs.foldr (fun i r => r.set i .no) ρ
def noOwn (ρ : Rho) (vs : List Nat) : Bool := vs.all fun i => match ρ[i]? with
  | some .no => true
  | some (.val _) => true
  | _ => false
/-- behind a comprehension: its names as they stood ahead of it -/
def backR (ρ ρ' : Rho) (vs : List Nat) : Rho := vs.foldr (fun i r => r.set i (ρ[i]?.getD .no)) ρ'
/-- the turns of a comprehension -/
def mapF (f : D → Rho → Out (Option D × Rho)) : List D → Rho → Out (List D × Rho)
  | [], ρ => .ok ([], ρ)
  | x :: xs, ρ => do
    let (y, ρ) ← f x ρ
    let (ys, ρ) ← mapF f xs ρ
    pure (match y with | some y => y :: ys | none => ys, ρ)
/-- the turns of a dict comprehension -/
def dictF (f : D → Rho → Out (Option (D × D) × Rho)) : List D → Rho → Bool → List D → List D → Out ((Bool × List D × List D) × Rho)
  | [], ρ, t, ks, vs => .ok ((t, ks, vs), ρ)
  | x :: xs, ρ, t, ks, vs => do
    let (y, ρ) ← f x ρ
    match y with
    | none => dictF f xs ρ t ks vs
    | some (k, v) => if keyOk (kindK t ks k) k = true ∧ ks.length < sizeLine then dictF f xs ρ (kindK t ks k) (putD k v ks vs).1 (putD k v ks vs).2 else .bad
inductive Fl where
  | nx (ρ : Rho) | rt (r : R) (ρ : Rho) | bk (ρ : Rho) | ct (ρ : Rho)
def forF (f : D → Rho → Out Fl) : List D → Rho → Out Fl
  | [], ρ => .ok (.nx ρ)
  | x :: xs, ρ => do
    match ← f x ρ with
    | .nx ρ => forF f xs ρ
    | .ct ρ => forF f xs ρ
    | .bk ρ => pure (.nx ρ)
    | .rt r ρ => pure (.rt r ρ)
def whlF (c : Rho → Out (Bool × Rho)) (f : Rho → Out Fl) : Nat → Rho → Out Fl
  | 0, _ => .bad
  | n + 1, ρ => do
    let (b, ρ) ← c ρ
    if b then
      match ← f ρ with
      | .nx ρ => whlF c f n ρ
      | .ct ρ => whlF c f n ρ
      | .bk ρ => pure (.nx ρ)
      | .rt r ρ => pure (.rt r ρ)
    else pure (.nx ρ)
/-- a place that is walked: the items, the places lent for it -/
def lend (ρ : Rho) : R → Option (List D × List Nat × Rho)
  | .dat d => (seq? d).map fun l => (l, [], ρ)
  | .fre d => (seq? d).map fun l => (l, [], ρ)
  | .pl i => match ρ[i]? with
    | some (.own 0 (.lst l)) => some (l, [i], ρ.set i (.lent (.lst l)))
    | some (.lent (.lst l)) => some (l, [], ρ)
    | some (.val d) => (seq? d).map fun l => (l, [], ρ)
    | _ => none
def unlend (ρ : Rho) (i : Nat) : Option Rho := match ρ[i]? with
  | some (.lent d) => some (ρ.set i (.own 0 d))
  | _ => none
/-- an error in a comprehension's block is not followed -/
def noErr {α : Type} : Out α → Out α
  | .ok a => .ok a
  | _ => .bad
def unlends (rs : List Nat) (ρ : Rho) : Option Rho := rs.foldlM unlend ρ
/-- behind a loop, however it ends -/
def endF (rs : List Nat) : Out Fl → Out Fl
  | .ok (.nx ρ) => (ofO (unlends rs ρ)).bind fun ρ => .ok (.nx ρ)
  | .ok (.rt r ρ) => (ofO (unlends rs ρ)).bind fun ρ => .ok (.rt r ρ)
  | .err c pl ρ => (ofO (unlends rs ρ)).bind fun ρ => .err c pl ρ
  | _ => .bad

def sameK : D → D → Bool
  | .lst _, .lst _ => true
  | .tup _, .tup _ => true
  | _, _ => false
def enumD : Nat → List D → List D
  | _, [] => []
  | n, x :: xs => .tup [.int (n : Nat), x] :: enumD (n + 1) xs
def zipD : List D → List D → List D
  | x :: xs, y :: ys => .tup [x, y] :: zipD xs ys
  | _, _ => []

structure Gm where
  call : Nat → List D → COut
  fuel : Nat
  anc : Nat → Nat → Option Bool

def callOut (ρ : Rho) : COut → Out (R × Rho)
  | .ok d fr _ => .ok (if fr then .fre d else .dat d, ρ)
  | .err c pl => .err c pl ρ
  | .bad => .bad
def callOutIo (ρ : Rho) (i m : Nat) : COut → Out (R × Rho)
  | .ok d fr io => .ok (if fr then .fre d else .dat d, ρ.set i (.own m io))
  | _ => .bad
def isaD (t : Nat) (d : D) : Option Bool := match t, d with
  | _, .gl _ => none
  | _, .scr _ => none
  | _, .dic _ _ _ => none
  | 0, .int _ => some true
  | 0, .bl _ => some true
  | 0, _ => some false
  | 1, .str _ => some true
  | 1, _ => some false
  | 2, .tup _ => some true
  | 2, _ => some false
  | 3, .lst _ => some true
  | 3, _ => some false
  | _, _ => none

/-- its truth -/
def trO (x : Out (R × Rho)) : Out (Bool × Rho) := do
  let (r, ρ) ← x
  let d ← ofO (fetch ρ r)
  let z ← ofO (truthD d)
  pure (z, ρ)
mutual
def ev (Γ : Gm) : E → Rho → Out (R × Rho)
  | .var i, ρ => ofO ((rdVar i ρ).map fun r => (r, ρ))
  | .con d, ρ => .ok (.dat d, ρ)
  | .op o a b, ρ => do
    let (r, ρ) ← ev Γ a ρ
    let (q, ρ) ← ev Γ b ρ
    let x ← ofO (fetch ρ r)
    let y ← ofO (fetch ρ q)
    let z ← ofO (opD o x y)
    pure (z, ρ)
  | .un o a, ρ => do
    let (r, ρ) ← ev Γ a ρ
    let x ← ofO (fetch ρ r)
    let z ← ofO (unD o x)
    pure (.dat z, ρ)
  | .cmp o a b, ρ => do
    let (r, ρ) ← ev Γ a ρ
    let (q, ρ) ← ev Γ b ρ
    let x ← ofO (fetch ρ r)
    let y ← ofO (fetch ρ q)
    let z ← ofO (cmpD o x y)
    pure (.dat (.bl z), ρ)
  | .chain o o' a b c, ρ => do
    let (r, ρ) ← ev Γ a ρ
    let (q, ρ) ← ev Γ b ρ
    let x ← ofO (fetch ρ r)
    let y ← ofO (fetch ρ q)
    let z ← ofO (cmpD o x y)
    if z then
      let (q', ρ) ← ev Γ c ρ
      let y ← ofO (fetch ρ q)
      let x ← ofO (fetch ρ q')
      let z ← ofO (cmpD o' y x)
      pure (.dat (.bl z), ρ)
    else pure (.dat (.bl false), ρ)
  | .chain3 o o' o'' a b c d, ρ => do
    let (r, ρ) ← ev Γ a ρ
    let (q, ρ) ← ev Γ b ρ
    let x ← ofO (fetch ρ r)
    let y ← ofO (fetch ρ q)
    let z ← ofO (cmpD o x y)
    if z then
      let (q', ρ) ← ev Γ c ρ
      let y ← ofO (fetch ρ q)
      let x ← ofO (fetch ρ q')
      let z ← ofO (cmpD o' y x)
      if z then
        let (q'', ρ) ← ev Γ d ρ
        let y ← ofO (fetch ρ q')
        let x ← ofO (fetch ρ q'')
        let z ← ofO (cmpD o'' y x)
        pure (.dat (.bl z), ρ)
      else pure (.dat (.bl false), ρ)
    else pure (.dat (.bl false), ρ)
  | .and a b, ρ => do
    let (r, ρ) ← ev Γ a ρ
    let x ← ofO (fetch ρ r)
    let z ← ofO (truthD x)
    if z then ev Γ b ρ else pure (r, ρ)
  | .or a b, ρ => do
    let (r, ρ) ← ev Γ a ρ
    let x ← ofO (fetch ρ r)
    let z ← ofO (truthD x)
    if z then pure (r, ρ) else ev Γ b ρ
  | .not a, ρ => do
    let (z, ρ) ← trO (ev Γ a ρ)
    pure (.dat (.bl (!z)), ρ)
  | .ite c a b, ρ => do
    let (z, ρ) ← trO (ev Γ c ρ)
    if z then ev Γ a ρ else ev Γ b ρ
  | .tup es, ρ => do
    let (ds, ρ) ← evs Γ es ρ
    if ds.length ≤ sizeLine then pure (.dat (.tup ds), ρ) else .bad
  | .lst es, ρ => do
    let (ds, ρ) ← evs Γ es ρ
    if ds.length ≤ sizeLine then pure (.fre (.lst ds), ρ) else .bad
  | .ix a i, ρ => do
    let (r, ρ) ← ev Γ a ρ
    let (q, ρ) ← ev Γ i ρ
    let x ← ofO (fetch ρ r)
    let y ← ofO (fetch ρ q)
    let z ← ofO (ixD x y)
    pure (.dat z, ρ)
  | .sl a lo hi, ρ => do
    let (r, ρ) ← ev Γ a ρ
    let (l, ρ) ← evO Γ lo ρ
    let (h, ρ) ← evO Γ hi ρ
    let x ← ofO (fetch ρ r)
    let z ← ofO (slD x l h)
    pure (z, ρ)
  | .call f es, ρ => do
    let (ds, ρ) ← evs Γ es ρ
    callOut ρ (Γ.call f ds)
  | .callio f i es, ρ => do
    let _ ← ofO (rdVar i ρ)
    let (ds, ρ) ← evs Γ es ρ
    match ρ[i]? with
    | some (.own m (.lst l)) => if m ≤ 1 then callOutIo ρ i m (Γ.call f (.lst l :: ds)) else .bad
    | _ => .bad
  | .menu fs i es, ρ => do
    let (r, ρ) ← ev Γ i ρ
    let x ← ofO (fetch ρ r)
    let k ← ofO (int? x)
    let f ← ofO ((ixOf fs.length k).bind fun j => fs[j]?)
    let (ds, ρ) ← evs Γ es ρ
    callOut ρ (Γ.call f ds)
  | .blt b es, ρ => do
    let (rs, ρ) ← evRs Γ es ρ
    let xs ← ofO (rs.mapM (fetch ρ))
    let z ← ofO (bltD b xs)
    pure (z, ρ)
  | .dsp es, ρ => do
    let (ds, ρ) ← evs Γ es ρ
    if ds.length ≤ 30 then
      let p ← ofO (putsD [] [] ds)
      pure (.fre (.dic false p.1 p.2), ρ)
    else .bad
  | .dnew, ρ => .ok (.fre (.dic false [] []), ρ)
  | .spl t es st, ρ => do
    let (ds, ρ) ← evSp Γ es st ρ
    if ds.length ≤ sizeLine then pure (if t then .dat (.tup ds) else .fre (.lst ds), ρ) else .bad
  | .rev a, ρ => do
    let (r, ρ) ← ev Γ a ρ
    let x ← ofO (fetch ρ r)
    let z ← ofO (revD x)
    pure (z, ρ)
  | .isa a t, ρ => do
    let (r, ρ) ← ev Γ a ρ
    let x ← ofO (fetch ρ r)
    let z ← ofO (isaD t x)
    pure (.dat (.bl z), ρ)
  | .mth b o es, ρ => do
    let (r, ρ) ← ev Γ o ρ
    let x ← ofO (fetch ρ r)
    let _ ← ofO (kindM b x)
    let (rs, ρ) ← evRs Γ es ρ
    let xs ← ofO ((r :: rs).mapM (fetch ρ))
    let z ← ofO (bltD b xs)
    pure (z, ρ)
  | .mut m i es, ρ => do
    let _ ← ofO (ownAt i ρ)
    let (ds, ρ) ← evs Γ es ρ
    match ρ[i]? with
    | some (.own k d) => do
      if k ≤ 1 then
        let (z, d) ← ofO (muD m d ds)
        pure (.dat z, ρ.set i (.own k d))
      else .bad
    | _ => .bad
  | .rngL t a b, ρ => do
    let (r, ρ) ← ev Γ a ρ
    let x ← ofO (fetch ρ r)
    let i ← ofO (int? x)
    let (r, ρ) ← ev Γ b ρ
    let x ← ofO (fetch ρ r)
    let k ← ofO (int? x)
    if rgB i k then pure (if t then .dat (.tup (rgD i k)) else .fre (.lst (rgD i k)), ρ) else .bad
  | .rngV a b, ρ => do
    let (r, ρ) ← ev Γ a ρ
    let x ← ofO (fetch ρ r)
    let i ← ofO (int? x)
    let (r, ρ) ← ev Γ b ρ
    let x ← ofO (fetch ρ r)
    let k ← ofO (int? x)
    if rgB i k then pure (.dat (.scr (rgD i k)), ρ) else .bad
  | .comp elt g it c vs, ρ => do
    let (l, rs, ρ) ← evI Γ it ρ
    if noOwn ρ vs then
      let (ys, ρ1) ← noErr (mapF (fun x ρ => do
        let ρ ← ofO (bindG g x ρ)
        let (b, ρ) ← (match c with | some c => trO (ev Γ c ρ) | none => pure (true, ρ))
        if b then
          let (r, ρ) ← ev Γ elt ρ
          let (y, ρ) ← ofO (give ρ r)
          pure (some y, wipeR ρ vs)
        else pure (none, wipeR ρ vs)) l (wipeR ρ vs))
      let ρ2 ← ofO (unlends rs (backR ρ ρ1 vs))
      if ys.length ≤ sizeLine then pure (.fre (.lst ys), ρ2) else .bad
    else .bad
  | .dcomp kx vx g it c vs, ρ => do
    let (l, rs, ρ) ← evI Γ it ρ
    if noOwn ρ vs then
      let (p, ρ1) ← noErr (dictF (fun x ρ => do
        let ρ ← ofO (bindG g x ρ)
        let (b, ρ) ← (match c with | some c => trO (ev Γ c ρ) | none => pure (true, ρ))
        if b then
          let (r, ρ) ← ev Γ kx ρ
          let (y, ρ) ← ofO (give ρ r)
          let (r, ρ) ← ev Γ vx ρ
          let (z, ρ) ← ofO (give ρ r)
          pure (some (y, z), wipeR ρ vs)
        else pure (none, wipeR ρ vs)) l (wipeR ρ vs) false [] [])
      let ρ2 ← ofO (unlends rs (backR ρ ρ1 vs))
      pure (.fre (.dic p.1 p.2.1 p.2.2), ρ2)
    else .bad
termination_by x => sizeOf x
/-- each given away -/
def evs (Γ : Gm) : List E → Rho → Out (List D × Rho)
  | [], ρ => .ok ([], ρ)
  | e :: es, ρ => do
    let (r, ρ) ← ev Γ e ρ
    let (d, ρ) ← ofO (give ρ r)
    let (ds, ρ) ← evs Γ es ρ
    pure (d :: ds, ρ)
termination_by x => sizeOf x
/-- a display's parts, those behind a star by their items -/
def evSp (Γ : Gm) : List E → List Bool → Rho → Out (List D × Rho)
  | [], _, ρ => .ok ([], ρ)
  | e :: es, st, ρ => do
    let (r, ρ) ← ev Γ e ρ
    if st.headD false then
      let x ← ofO (fetch ρ r)
      let l ← ofO (parts? x)
      let (ds, ρ) ← evSp Γ es st.tail ρ
      pure (l ++ ds, ρ)
    else
      let (d, ρ) ← ofO (give ρ r)
      let (ds, ρ) ← evSp Γ es st.tail ρ
      pure (d :: ds, ρ)
termination_by x => sizeOf x
/-- each looked at -/
def evRs (Γ : Gm) : List E → Rho → Out (List R × Rho)
  | [], ρ => .ok ([], ρ)
  | e :: es, ρ => do
    let (r, ρ) ← ev Γ e ρ
    let (rs, ρ) ← evRs Γ es ρ
    pure (r :: rs, ρ)
termination_by x => sizeOf x
def evO (Γ : Gm) : Option E → Rho → Out (Option Int × Rho)
  | none, ρ => .ok (none, ρ)
  | some e, ρ => do
    let (r, ρ) ← ev Γ e ρ
    let x ← ofO (fetch ρ r)
    let k ← ofO (int? x)
    pure (some k, ρ)
termination_by x => sizeOf x
/-- what is walked: the items, the places that are walked -/
def evI (Γ : Gm) : I → Rho → Out (List D × List Nat × Rho)
  | .seq e, ρ => do
    let (r, ρ) ← ev Γ e ρ
    let (l, js, ρ) ← ofO (lend ρ r)
    pure (l, js, ρ)
  | .rng1 a, ρ => do
    let (r, ρ) ← ev Γ a ρ
    let x ← ofO (fetch ρ r)
    let k ← ofO (int? x)
    if -(2 ^ 62) ≤ k ∧ k < 2 ^ 62 then pure (rgD 0 k, [], ρ) else .bad
  | .rng2 a b, ρ => do
    let (r, ρ) ← ev Γ a ρ
    let x ← ofO (fetch ρ r)
    let i ← ofO (int? x)
    let (r, ρ) ← ev Γ b ρ
    let x ← ofO (fetch ρ r)
    let k ← ofO (int? x)
    if -(2 ^ 62) ≤ i ∧ i < 2 ^ 62 ∧ -(2 ^ 62) ≤ k ∧ k < 2 ^ 62 then pure (rgD i k, [], ρ) else .bad
  | .enum e, ρ => do
    let (r, ρ) ← ev Γ e ρ
    let _ ← ofO ((fetch ρ r).bind parts?)
    let (l, js, ρ) ← ofO (lend ρ r)
    pure (enumD 0 l, js, ρ)
  | .zip2 a b, ρ => do
    let (r, ρ) ← ev Γ a ρ
    let (q, ρ) ← ev Γ b ρ
    let x ← ofO (fetch ρ r)
    let y ← ofO (fetch ρ q)
    if sameK x y then
      let (l, js, ρ) ← ofO (lend ρ r)
      let (k, is, ρ) ← ofO (lend ρ q)
      pure (zipD l k, is ++ js, ρ)
    else .bad
termination_by x => sizeOf x
end

/-- each kept, new lists as one's own -/
def evP (Γ : Gm) : List E → Rho → Out (List Sl × Rho)
  | [], ρ => .ok ([], ρ)
  | e :: es, ρ => do
    let (r, ρ) ← ev Γ e ρ
    let (s, ρ) ← (match r with
      | .fre (.lst l) => .ok (.own 0 (.lst l), ρ)
      | .fre _ => .bad
      | r => ofO ((give ρ r).map fun p => (.val p.1, p.2)) : Out (Sl × Rho))
    let (ss, ρ) ← evP Γ es ρ
    pure (s :: ss, ρ)
def stVars : List Nat → List Sl → Rho → Option Rho
  | [], [], ρ => some ρ
  | i :: js, s :: ss, ρ => (stVars js ss ρ).bind (stVar i s)
  | _, _, _ => none
mutual
def exS (Γ : Gm) : S → Rho → Out Fl
  | .asg g e, ρ => do
    let (r, ρ) ← ev Γ e ρ
    match g, r with
    | .name i, .fre d => do
      let ρ ← ofO (stVar i (.own 0 d) ρ)
      pure (.nx ρ)
    | _, _ => do
      let (d, ρ) ← ofO (give ρ r)
      let ρ ← ofO (bindG g d ρ)
      pure (.nx ρ)
  | .par js es, ρ => do
    let (ss, ρ) ← evP Γ es ρ
    let ρ ← ofO (stVars js ss ρ)
    pure (.nx ρ)
  | .aug i o e, ρ => do
    let r ← ofO (rdVar i ρ)
    let x ← ofO (fetch ρ r)
    let a ← ofO (int? x)
    let (q, ρ) ← ev Γ e ρ
    let y ← ofO (fetch ρ q)
    let b ← ofO (int? y)
    let k ← ofO (iopA o a b)
    let ρ ← ofO (stVar i (.val (.int k)) ρ)
    pure (.nx ρ)
  | .setix i j e, ρ => do
    let (r, ρ) ← ev Γ e ρ
    let (d, ρ) ← ofO (give ρ r)
    let _ ← ofO (ownAny i ρ)
    let (q, ρ) ← ev Γ j ρ
    let x ← ofO (fetch ρ q)
    match ρ[i]? with
    | some (.own m (.lst l)) => do
      let k ← ofO (int? x)
      if m ≤ 1 then
        let n ← ofO (ixOf l.length k)
        pure (.nx (ρ.set i (.own m (.lst (l.set n d)))))
      else .bad
    | some (.own m (.dic t ks vs)) => do
      if m = 0 ∧ keyOk (kindK t ks x) x = true ∧ ks.length < sizeLine then
        pure (.nx (ρ.set i (.own 0 (.dic (kindK t ks x) (putD x d ks vs).1 (putD x d ks vs).2))))
      else .bad
    | _ => .bad
  | .ex e, ρ => do
    let (_, ρ) ← ev Γ e ρ
    pure (.nx ρ)
  | .ret e, ρ => do
    let (r, ρ) ← ev Γ e ρ
    pure (.rt r ρ)
  | .retN, ρ => .ok (.rt (.dat .non) ρ)
  | .ite c a b, ρ => do
    let (z, ρ) ← trO (ev Γ c ρ)
    if z then exSs Γ a ρ else exSs Γ b ρ
  | .for_ g it b, ρ => do
    let (l, rs, ρ) ← evI Γ it ρ
    endF rs (forF (fun x ρ => do
      let ρ ← ofO (bindG g x ρ)
      exSs Γ b ρ) l ρ)
  | .whl c b, ρ => whlF (fun ρ => trO (ev Γ c ρ)) (exSs Γ b) Γ.fuel ρ
  | .brk, ρ => .ok (.bk ρ)
  | .cnt, ρ => .ok (.ct ρ)
  | .pass, ρ => .ok (.nx ρ)
  | .raise c es, ρ => do
    let (ds, ρ) ← evs Γ es ρ
    .err c ds ρ
  | .try_ b c d, ρ => match exSs Γ b ρ with
    | .err c' pl ρ' => match Γ.anc c' c with
      | some true => .ok (.rt (.dat d) ρ')
      | some false => .err c' pl ρ'
      | none => .bad
    | x => x
  | .tryk b c tbl, ρ => match exSs Γ b ρ with
    | .err c' pl ρ' => match Γ.anc c' c with
      | some true => do
        let d ← ofO tbl[c']?
        pure (.rt (.dat d) ρ')
      | some false => .err c' pl ρ'
      | none => .bad
    | x => x
termination_by x => sizeOf x
def exSs (Γ : Gm) : List S → Rho → Out Fl
  | [], ρ => .ok (.nx ρ)
  | s :: ss, ρ => do
    match ← exS Γ s ρ with
    | .nx ρ => exSs Γ ss ρ
    | x => pure x
termination_by x => sizeOf x
end

/-- a def: its parameters, its places, whether its first parameter is the caller's list -/
structure Fn where
  par : Nat
  slots : Nat
  io : Bool
  body : List S
def endFl (io : Bool) : Fl → COut
  | .nx ρ => match ((if io then ρ[0]? else some (Sl.own 1 .non)) : Option Sl) with
    | some (.own 1 d) => .ok .non false d
    | _ => .bad
  | .rt r ρ => match ((if io then ρ[0]? else some (Sl.own 1 .non)) : Option Sl) with
    | some (.own 1 d) => match r with
      | .dat x => .ok x false d
      | .fre x => .ok x true d
      | .pl i => match ρ[i]? with
        | some (.own 0 x) => .ok x true d
        | _ => .bad
    | _ => .bad
  | _ => .bad
def startR (F : Fn) (ds : List D) : Rho := match F.io, ds with
  | true, d :: r => .own 1 d :: (r.map .val ++ List.replicate (F.slots - ds.length) .no)
  | _, _ => ds.map .val ++ List.replicate (F.slots - ds.length) .no
def runFn (Γ : Gm) (F : Fn) (ds : List D) : COut :=
  if ds.length = F.par then match exSs Γ F.body (startR F ds) with
    | .ok f => endFl F.io f
    | .err c pl _ => if F.io then .bad else .err c pl
    | .bad => .bad
  else .bad
structure Pg where
  fns : List Fn
  anc : List (List Bool)
  fuel : Nat
def Pg.gm (P : Pg) (call : Nat → List D → COut) : Gm := ⟨call, P.fuel, fun a b => (P.anc[a]?).bind fun r => r[b]?⟩
def callN (P : Pg) : Nat → Nat → List D → COut
  | 0, _, _ => .bad
  | n + 1, f, ds => match P.fns[f]? with
    | some F => runFn (P.gm (callN P n)) F ds
    | none => .bad
end PI
/-! From the program's text to the small language. -/
namespace PI
open PySem

/-- what a text's names stand for -/
structure Nm where
  fns : List (Str × Bool)
  cls : List Str
  cons : List (Str × D)
  kinds : List (Str × List D)
  ras : List Nat
/-- where one stands: the def's places, the scope -/
structure Cc where
  nm : Nm
  N : List Str
  sc : Scope
  ts : Scope

def vis (sc : Scope) (x : Str) : Bool := match sc.names.lookup x with
  | some .local => true
  | some .cell => true
  | some .free => true
  | _ => false
def loc (sc : Scope) (x : Str) : Bool := match sc.names.lookup x with
  | some .local => true
  | some .cell => true
  | _ => false
def gbl (sc : Scope) (x : Str) : Bool := match sc.names.lookup x with
  | some .globalImplicit => true
  | _ => false
def ixIn (x : Str) : List Str → Option Nat
  | [] => none
  | y :: r => if y = x then some 0 else (ixIn x r).map (· + 1)
def okName (x : Str) : Bool := !(x == ("__debug__" : Str)) && !(x == ("__classdict__" : Str)) && !(x == ("__name__" : Str))
def Cc.slot (c : Cc) (x : Str) : Option Nat := if vis c.sc x && okName x then ixIn x c.N else none
def Cc.lslot (c : Cc) (x : Str) : Option Nat := if loc c.ts x && okName x then ixIn x c.N else none
def fnIx (x : Str) : List (Str × Bool) → Option (Nat × Bool)
  | [] => none
  | (y, b) :: r => if y = x then some (0, b) else (fnIx x r).map fun p => (p.1 + 1, p.2)
def Cc.fn (c : Cc) (x : Str) : Option (Nat × Bool) := if gbl c.sc x && okName x then fnIx x c.nm.fns else none
def Cc.blt (c : Cc) (x : Str) : Bool := gbl c.sc x && okName x && (fnIx x c.nm.fns).isNone && (ixIn x c.nm.cls).isNone && (c.nm.cons.lookup x).isNone

def bOf (x : Str) : Option B :=
  if x = ("len" : Str) then some .len else if x = ("sum" : Str) then some .sum else if x = ("all" : Str) then some .all
  else if x = ("any" : Str) then some .any else if x = ("tuple" : Str) then some .tuple else if x = ("list" : Str) then some .list
  else if x = ("sorted" : Str) then some .sorted else if x = ("min" : Str) then some .min else if x = ("max" : Str) then some .max
  else if x = ("int" : Str) then some .int else if x = ("str" : Str) then some .str else if x = ("repr" : Str) then some .repr
  else if x = ("abs" : Str) then some .abs else if x = ("dict" : Str) then some .dict else none
def noCall0 : Expr → Bool
  | .Call _ _ _ _ => false
  | _ => true
def mOf (x : Str) : Option B := if x = ("index" : Str) then some .index else if x = ("bit_length" : Str) then some .bitLength else none
def muOf (x : Str) (n : Nat) : Option Mu :=
  if x = ("append" : Str) ∧ n = 1 then some .append else if x = ("extend" : Str) ∧ n = 1 then some .extend else if x = ("pop" : Str) ∧ n = 0 then some .pop
  else if x = ("reverse" : Str) ∧ n = 0 then some .reverse else none
def tyOf (x : Str) : Option Nat :=
  if x = ("int" : Str) then some 0 else if x = ("str" : Str) then some 1 else if x = ("tuple" : Str) then some 2 else if x = ("list" : Str) then some 3 else none
def opOf : Operator → Bool
  | .MatMult => false
  | .Div => false
  | _ => true

def cmpOk : CmpOp → Expr → Bool
  | .Is, .Constant .none _ _ => true
  | .Is, .Constant (.bool true) _ _ => true
  | .Is, _ => false
  | .IsNot, .Constant .none _ _ => true
  | .IsNot, .Constant (.bool true) _ _ => true
  | .IsNot, _ => false
  | op, b => !(behindInMarks op b)
/-- names, as a target -/
def trG (c : Cc) : Nat → Expr → Option G
  | 0, _ => none
  | n + 1, .Name x _ => (c.lslot x).map .name
  | n + 1, .Tuple es _ _ => (es.mapM (trG c n)).map .tup
  | _, _ => none
def ownOf (c : Cc) (scope : Scope) : List (Str × Nat) :=
  (scope.names.filter fun p => p.2 == .local || p.2 == .cell).filterMap fun p => (ixIn p.1 c.N).map fun i => (p.1, i)
def isRg (c : Cc) : List Expr → Bool
  | [.Call (.Name f _) _ [] _] => decide (f = ("range" : Str)) && c.blt f
  | _ => false
def noSet : Expr → Bool
  | .Set _ _ _ => false
  | _ => true
/-- enumerate and zip want a target of several names -/
def tupTg : Expr → Expr → Bool
  | .Call (.Name f _) _ _ _, .Tuple _ _ _ => true
  | .Call (.Name f _) _ _ _, _ => !(f == ("enumerate" : Str)) && !(f == ("zip" : Str))
  | _, _ => true
def tstOk : Nat → Expr → Bool
  | 0, _ => false
  | n + 1, .UnaryOp .Not a _ => tstOk n a
  | n + 1, .BoolOp _ vs _ => vs.all (tstOk n)
  | _ + 1, .IfExp _ _ _ _ => false
  | _ + 1, _ => true
def isStar : Expr → Bool
  | .Starred _ _ => true
  | _ => false
def menuFn (c : Cc) : Expr → Option Nat
  | .Name x _ => match c.fn x with
    | some (k, false) => some k
    | _ => none
  | _ => none
mutual
def trE (c : Cc) : Nat → Expr → Option E
  | 0, _ => none
  | n + 1, e => match e with
    | .Name x _ => match c.slot x with
      | some i => some (.var i)
      | none => if gbl c.sc x && okName x then (c.nm.cons.lookup x).map .con else none
    | .Constant .none _ _ => some (.con .non)
    | .Constant (.bool b) _ _ => some (.con (.bl b))
    | .Constant (.int i) _ _ => some (.con (.int i))
    | .Constant (.str x) _ _ => some (.con (.str x))
    | .BinOp a o b _ => if opOf o then do
        let a ← trE c n a
        let b ← trE c n b
        pure (.op o a b)
      else none
    | .UnaryOp .Not a _ => (trE c n a).map .not
    | .UnaryOp o a _ => (trE c n a).map (.un o)
    | .BoolOp o vs p => trBool c n o vs
    | .Compare a [o] [b] _ => if cmpOk o b then do
        let a ← trE c n a
        let b ← trE c n b
        pure (.cmp o a b)
      else none
    | .Compare a [o, o'] [b, d] _ => if cmpOk o b && cmpOk o' d then do
        let a ← trE c n a
        let b ← trE c n b
        let d ← trE c n d
        pure (.chain o o' a b d)
      else none
    | .Compare a [o, o', o''] [b, d, f] _ => if cmpOk o b && cmpOk o' d && cmpOk o'' f then do
        let a ← trE c n a
        let b ← trE c n b
        let d ← trE c n d
        let f ← trE c n f
        pure (.chain3 o o' o'' a b d f)
      else none
    | .IfExp t a b _ => if tstOk n t then do
        let t ← trE c n t
        let a ← trE c n a
        let b ← trE c n b
        pure (.ite t a b)
      else none
    | .Tuple es _ _ => if es.any isStar then (trSp c n es).map fun p => .spl true p.1 p.2 else (trEs c n es).map .tup
    | .List es _ => if es.any isStar then (trSp c n es).map fun p => .spl false p.1 p.2 else (trEs c n es).map .lst
    | .Dict keys values _ => if keys.isEmpty && values.isEmpty then some .dnew else if keys.length = values.length ∧ keys.length ≤ 15 ∧ keys ≠ [] then (trKvs c n keys values).map .dsp else none
    | .Subscript a (.Slice lo hi none _) _ => do
        let a ← trE c n a
        let lo ← trOp c n lo
        let hi ← trOp c n hi
        pure (.sl a lo hi)
    | .Subscript a (.Slice none none (some (.UnaryOp .USub (.Constant (.int 1) _ _) _)) _) _ => (trE c n a).map .rev
    | .Subscript a i _ => do
        let a ← trE c n a
        let i ← trE c n i
        pure (.ix a i)
    | .Call (.Name f _) args [] _ => match c.fn f with
      | some (k, false) => (trEs c n args).map (.call k)
      | some (k, true) => match args with
        | .Name x _ :: args => do
          let i ← c.slot x
          (trEs c n args).map (.callio k i)
        | _ => none
      | none => if c.blt f then
          if f = ("list" : Str) ∧ isRg c args then (trRg c n args).map fun p => .rngL false p.1 p.2
          else if f = ("tuple" : Str) ∧ isRg c args then (trRg c n args).map fun p => .rngL true p.1 p.2
          else if f = ("range" : Str) then match args with
            | [a] => (trE c n a).map fun a => .rngV (.con (.int 0)) a
            | [a, b] => do
              let a ← trE c n a
              let b ← trE c n b
              pure (.rngV a b)
            | _ => none
          else if f = ("isinstance" : Str) then match args with
            | [a, .Name t _] => if c.blt t then do
              let a ← trE c n a
              let k ← tyOf t
              pure (.isa a k)
            else none
            | _ => none
          else do
            let b ← bOf f
            (trEs c n args).map (.blt b)
        else none
    | .Call (.Attribute o m ap) args [] cp => if ap.endLine == cp.line && decide (args.length < 20) then match muOf m args.length with
      | some u => match o with
        | .Name x _ => do
          let i ← c.slot x
          (trEs c n args).map (.mut u i)
        | _ => none
      | none => if noCall0 o then do
        let b ← mOf m
        let o ← trE c n o
        (trEs c n args).map (.mth b o)
        else none
      else none
    | .Call (.Subscript (.List fs _) i _) args [] _ => do
        if args.isEmpty || decide (20 ≤ fs.length) then none else do
        let fs ← fs.mapM (menuFn c)
        let i ← trE c n i
        (trEs c n args).map (.menu fs i)
    | .ListComp elt [⟨tg, iter, ifs, az⟩] scope _ => do
        let own := ownOf c scope
        if az = 0 ∧ (L2.blkC c.N c.sc scope own && noSet iter && tupTg iter tg) = true then do
          let it ← trI c n iter
          let c' := { c with sc := L2.relS scope c.sc, ts := scope }
          let g ← trG c' n tg
          if g.sub (own.map (·.2)) then do
            let t ← trIfs c' n ifs
            let e ← trE c' n elt
            pure (.comp e g it t (own.map (·.2)))
          else none
        else none
    | .DictComp kx vx [⟨tg, iter, ifs, az⟩] scope _ => do
        let own := ownOf c scope
        if az = 0 ∧ (L2.blkC c.N c.sc scope own && noSet iter && tupTg iter tg) = true then do
          let it ← trI c n iter
          let c' := { c with sc := L2.relS scope c.sc, ts := scope }
          let g ← trG c' n tg
          if g.sub (own.map (·.2)) then do
            let t ← trIfs c' n ifs
            let e ← trE c' n kx
            let f ← trE c' n vx
            pure (.dcomp e f g it t (own.map (·.2)))
          else none
        else none
    | _ => none
def trEs (c : Cc) : Nat → List Expr → Option (List E)
  | 0, _ => none
  | _ + 1, [] => some []
  | n + 1, e :: es => do
    let e ← trE c n e
    let es ← trEs c n es
    pure (e :: es)
def trKvs (c : Cc) : Nat → List (Option Expr) → List Expr → Option (List E)
  | 0, _, _ => none
  | _ + 1, [], [] => some []
  | n + 1, some k :: ks, v :: vs => do
    let k ← trE c n k
    let v ← trE c n v
    let r ← trKvs c n ks vs
    pure (k :: v :: r)
  | _ + 1, _, _ => none
def trSp (c : Cc) : Nat → List Expr → Option (List E × List Bool)
  | 0, _ => none
  | _ + 1, [] => some ([], [])
  | n + 1, .Starred e _ :: es => do
    let e ← trE c n e
    let p ← trSp c n es
    pure (e :: p.1, true :: p.2)
  | n + 1, e :: es => do
    let e ← trE c n e
    let p ← trSp c n es
    pure (e :: p.1, false :: p.2)
def trRg (c : Cc) : Nat → List Expr → Option (E × E)
  | 0, _ => none
  | n + 1, [.Call (.Name _ _) [a] [] _] => (trE c n a).map fun a => (.con (.int 0), a)
  | n + 1, [.Call (.Name _ _) [a, b] [] _] => do
    let a ← trE c n a
    let b ← trE c n b
    pure (a, b)
  | _ + 1, _ => none
def trBool (c : Cc) : Nat → BoolOp → List Expr → Option E
  | 0, _, _ => none
  | n + 1, _, [a] => trE c n a
  | n + 1, .And, a :: r => do
    let a ← trE c n a
    let r ← trBool c n .And r
    pure (.and a r)
  | n + 1, .Or, a :: r => do
    let a ← trE c n a
    let r ← trBool c n .Or r
    pure (.or a r)
  | _ + 1, _, [] => none
def trOp (c : Cc) : Nat → Option Expr → Option (Option E)
  | 0, _ => none
  | _ + 1, none => some none
  | n + 1, some e => (trE c n e).map some
def trIfs (c : Cc) : Nat → List Expr → Option (Option E)
  | 0, _ => none
  | _ + 1, [] => some none
  | n + 1, [e] => if tstOk n e then (trE c n e).map some else none
  | _ + 1, _ => none
def trI (c : Cc) : Nat → Expr → Option I
  | 0, _ => none
  | n + 1, e => match e with
    | .Call (.Name f _) args [] _ => if c.blt f then
        if f = ("range" : Str) then match args with
          | [a] => (trE c n a).map .rng1
          | [a, b] => do
            let a ← trE c n a
            let b ← trE c n b
            pure (.rng2 a b)
          | _ => none
        else if f = ("enumerate" : Str) then match args with
          | [a] => (trE c n a).map .enum
          | _ => none
        else if f = ("zip" : Str) then match args with
          | [a, b] => do
            let a ← trE c n a
            let b ← trE c n b
            pure (.zip2 a b)
          | _ => none
        else (trE c n e).map .seq
      else (trE c n e).map .seq
    | _ => (trE c n e).map .seq
end
def isComp : Expr → Bool
  | .ListComp _ _ _ _ => true
  | .SetComp _ _ _ _ => true
  | .DictComp _ _ _ _ _ => true
  | _ => false
def isComp2 : Expr → Bool
  | .SetComp _ _ _ _ => true
  | _ => false
def tgName (c : Cc) : Expr → Option Nat
  | .Name x _ => c.lslot x
  | _ => none
def lcl (sc : Scope) (x : Str) : Bool := match sc.names.lookup x with
  | some .local => true
  | _ => false
/-- how names side by side take values side by side: from the right, without a tuple (true); from the left, out of a tuple -/
def parMode (sc : Scope) (gs es : List Expr) : Option Bool := match gs with
  | [.Name x p, .Name y q] => if lcl sc x && lcl sc y && q.line == p.line && !(x == y) && !(es.all (foldedForSure 8)) then (if es.all (constantsAlone 8) then none else some true) else if es.all (foldedForSure 8) || !lcl sc x || !lcl sc y then some false else none
  | [.Name x p, .Name y q, .Name z r] => if lcl sc x && lcl sc y && lcl sc z && q.line == p.line && r.line == p.line && !(x == y) && !(x == z) && !(y == z) && !(es.all (foldedForSure 8)) then (if es.all (constantsAlone 8) then none else some true) else if es.all (foldedForSure 8) || !lcl sc x || !lcl sc y || !lcl sc z then some false else none
  | _ => if gs.length == 2 || gs.length == 3 then none else some false
def conD (k : Const) : Option D := match k with
  | .bool v => some (.bl v)
  | .str v => some (.str v)
  | _ => none
def trRaise (c : Cc) : Option Expr → Option Expr → Option S
  | some (.Call (.Name x _) [.Constant (.str _) _ _] [] _), none => if gbl c.sc x && okName x then do
        let k ← ixIn x c.nm.cls
        if c.nm.ras.contains k then pure (.raise k []) else none
      else none
  | _, _ => none
def trTry (c : Cc) (b : Option (List S)) : List ExceptHandler → Option S
  | [.ExceptHandler (some (.Name x _)) (some y) [.Return (some (.Call (.Name f _) [.Name z _] [] _)) _] _] =>
        if gbl c.sc x && okName x && decide (y = z) && lcl c.sc y && okName y && okName f && gbl c.sc f then do
          let k ← ixIn x c.nm.cls
          let _ ← ixIn y c.N
          let tbl ← c.nm.kinds.lookup f
          let b ← b
          pure (.tryk b k tbl)
        else none
  | [.ExceptHandler (some (.Name x _)) none [.Return (some (.Constant k _ _)) _] _] => if gbl c.sc x && okName x then do
          let i ← ixIn x c.nm.cls
          let d ← conD k
          let b ← b
          pure (.try_ b i d)
        else none
  | _ => none
mutual
def trS (c : Cc) : Nat → Stmt → Option S
  | 0, _ => none
  | n + 1, s => match s with
    | .Assign [.Subscript (.Name x _) j _] e _ => if isComp e then none else do
        let i ← c.slot x
        let j ← trE c 40 j
        let e ← trE c 40 e
        pure (.setix i j e)
    | .Assign [.Tuple gs _ _] (.Tuple es _ _) _ => if gs.length = es.length ∧ es.length < 20 ∧ (parMode c.sc gs es).isSome = true then do
        let js ← gs.mapM (tgName c)
        if js.Nodup then do
          let es ← trEs c 40 es
          pure (.par js es)
        else none
      else none
    | .Assign [g] e _ => if isComp2 e then none else do
        let g ← trG c 10 g
        let e ← trE c 40 e
        pure (.asg g e)
    | .AugAssign (.Name x _) o e _ => do
        let i ← c.lslot x
        let e ← trE c 40 e
        pure (.aug i o e)
    | .Expr e _ => if isComp e then none else (trE c 40 e).map .ex
    | .Return none _ => some .retN
    | .Return (some e) _ => (trE c 40 e).map .ret
    | .If t a b _ => if tstOk 40 t then do
        let t ← trE c 40 t
        let a ← trSs c n a
        let b ← trSs c n b
        pure (.ite t a b)
      else none
    | .For g it b [] _ => if noSet it && tupTg it g then do
        let it ← trI c 40 it
        let g ← trG c 10 g
        let b ← trSs c n b
        pure (.for_ g it b)
      else none
    | .While t b [] _ => if tstOk 40 t then do
        let t ← trE c 40 t
        let b ← trSs c n b
        pure (.whl t b)
      else none
    | .Break _ => some .brk
    | .Continue _ => some .cnt
    | .Pass _ => some .pass
    | .Raise e f _ => trRaise c e f
    | .Try b hs [] [] _ => trTry c (trSs c n b) hs
    | _ => none
def trSs (c : Cc) : Nat → List Stmt → Option (List S)
  | 0, _ => none
  | _ + 1, [] => some []
  | n + 1, s :: ss => do
    let s ← trS c n s
    let ss ← trSs c n ss
    pure (s :: ss)
end
end PI
/-! How plain values lie in the abstract heap. -/
namespace PI
open PySem L2

/-- a key of a dict -/
def keyD : D → Option Key
  | .int i => some (.inl i)
  | .str x => some (.inr x)
  | _ => none
def keysD : D → Option (List Key)
  | .tup ks => ks.mapM keyD
  | _ => none
/-- a dict as it stands: its keys, its values -/
def DkO (t : Bool) (ks : List D) (us : List V) (o : HO) : Prop := ks.length = us.length ∧ match t with
  | false => ∃ js, ks.mapM keyD = some js ∧ o = .dK (js.zip us)
  | true => ∃ js, ks.mapM keysD = some js ∧ o = .dT (js.zip us)
mutual
def Rp (K : PySem.W.Frag) (F : Hp) : D → V → Prop
  | .non, v => v = .non
  | .bl b, v => v = .bl b
  | .int i, v => v = .int i
  | .str x, v => v = .str x
  | .tup ds, v => ∃ a vs, v = .ref a ∧ F a = some (.tup vs) ∧ RpL K F ds vs
  | .lst ds, v => ∃ a vs, v = .ref a ∧ F a = some (.lst vs) ∧ RpL K F ds vs
  | .dic t ks ds, v => ∃ a us, v = .ref a ∧ (∃ o, F a = some o ∧ DkO t ks us o) ∧ RpL K F ds us
  | .gl _, _ => False
  | .scr ds, v => ∃ a, v = .ref a ∧ ((∃ vs, SqL K F a vs ∧ RpL K F ds vs) ∨ ∃ i j : Int, F a = some (.rng i j) ∧ ds = rgD i j ∧ (-(2 ^ 62) ≤ i ∧ i < 2 ^ 62 ∧ -(2 ^ 62) ≤ j ∧ j < 2 ^ 62))
def RpL (K : PySem.W.Frag) (F : Hp) : List D → List V → Prop
  | [], vs => vs = []
  | d :: ds, vs => ∃ v r, vs = v :: r ∧ Rp K F d v ∧ RpL K F ds r
end

section
variable {K : PySem.W.Frag} {F F' H : Hp}
theorem Same.rd {a : Addr} {u : HO} (e : Same F F') (h : Rd F a u) : Rd F' a u := by
  rcases h with h | ⟨o, h⟩
  · exact .inl (e _ _ h)
  · exact .inr ⟨o, e _ _ h⟩
theorem Same.tupT {a : Addr} {xs : List V} (e : Same F F') (h : F a = some (.tup xs)) : SqT K F' a xs := SqT.of (e _ _ h)
theorem Same.sqT {a : Addr} {xs : List V} (e : Same F F') (h : SqT K F a xs) : SqT K F' a xs := by
  rcases h with h | h
  · exact .inl (Same.rd e h)
  · exact .inr h
theorem Same.sqL {a : Addr} {xs : List V} (e : Same F F') (h : SqL K F a xs) : SqL K F' a xs := by
  rcases h with h | h
  · exact .inl (Same.rd e h)
  · exact .inr h
mutual
theorem Rp.mono (e : Same F F') : ∀ {d : D} {v : V}, Rp K F d v → Rp K F' d v
  | .non, _, h => h
  | .bl _, _, h => h
  | .int _, _, h => h
  | .str _, _, h => h
  | .tup _, _, ⟨a, vs, h1, h2, h3⟩ => ⟨a, vs, h1, e _ _ h2, RpL.mono e h3⟩
  | .lst _, _, ⟨a, vs, h1, h2, h3⟩ => ⟨a, vs, h1, e _ _ h2, RpL.mono e h3⟩
  | .scr _, _, ⟨a, h1, .inl ⟨vs, h2, h3⟩⟩ => ⟨a, h1, .inl ⟨vs, Same.sqL e h2, RpL.mono e h3⟩⟩
  | .scr _, _, ⟨a, h1, .inr ⟨i, j, h2, h3⟩⟩ => ⟨a, h1, .inr ⟨i, j, e _ _ h2, h3⟩⟩
  | .dic _ _ _, _, ⟨a, us, h1, ⟨o, h2, h3⟩, h4⟩ => ⟨a, us, h1, ⟨o, e _ _ h2, h3⟩, RpL.mono e h4⟩
  | .gl _, _, h => h.elim
theorem RpL.mono (e : Same F F') : ∀ {ds : List D} {vs : List V}, RpL K F ds vs → RpL K F' ds vs
  | [], _, h => h
  | _ :: _, _, ⟨v, r, h1, h2, h3⟩ => ⟨v, r, h1, Rp.mono e h2, RpL.mono e h3⟩
end
theorem RpL.length : ∀ {ds : List D} {vs : List V}, RpL K F ds vs → ds.length = vs.length
  | [], _, h => by
    have h' : _ = [] := h
    rw [h']
    rfl
  | _ :: _, _, ⟨_, _, h1, _, h3⟩ => by
    rw [h1, List.length_cons, List.length_cons, RpL.length h3]
theorem RpL.get : ∀ {ds : List D} {vs : List V} {i : Nat} {d : D}, RpL K F ds vs → ds[i]? = some d → ∃ v, vs[i]? = some v ∧ Rp K F d v
  | [], _, _, _, _, e => by simp at e
  | _ :: _, _, 0, _, ⟨v, r, h1, h2, _⟩, e => by
    simp at e
    subst e
    exact ⟨v, by rw [h1]; rfl, h2⟩
  | _ :: _, _, i + 1, d, ⟨v, r, h1, _, h3⟩, e => by
    obtain ⟨z, q1, q2⟩ := RpL.get (i := i) (d := d) h3 (by simpa using e)
    exact ⟨z, by rw [h1]; simpa using q1, q2⟩
theorem RpL.back : ∀ {ds : List D} {vs : List V} {i : Nat} {v : V}, RpL K F ds vs → vs[i]? = some v → ∃ d, ds[i]? = some d ∧ Rp K F d v
  | [], _, i, _, h, e => by
    have h' : _ = [] := h
    rw [h'] at e
    simp at e
  | d :: _, _, 0, _, ⟨v, r, h1, h2, _⟩, e => by
    rw [h1] at e
    simp at e
    subst e
    exact ⟨d, rfl, h2⟩
  | _ :: _, _, i + 1, v, ⟨_, r, h1, _, h3⟩, e => by
    rw [h1] at e
    obtain ⟨z, q1, q2⟩ := RpL.back (i := i) (v := v) h3 (by simpa using e)
    exact ⟨z, by simpa using q1, q2⟩
theorem RpL.append : ∀ {ds es : List D} {vs us : List V}, RpL K F ds vs → RpL K F es us → RpL K F (ds ++ es) (vs ++ us)
  | [], _, _, _, h, g => by
    have h' : _ = [] := h
    rw [h']
    exact g
  | _ :: _, _, _, _, ⟨v, r, h1, h2, h3⟩, g => ⟨v, r ++ _, by rw [h1]; rfl, h2, RpL.append h3 g⟩
theorem RpL.one {d : D} {v : V} (h : Rp K F d v) : RpL K F [d] [v] := ⟨v, [], rfl, h, rfl⟩
theorem RpL.drop : ∀ (n : Nat) {ds : List D} {vs : List V}, RpL K F ds vs → RpL K F (ds.drop n) (vs.drop n)
  | 0, _, _, h => h
  | n + 1, [], _, h => by
    have h' : _ = [] := h
    rw [h']
    exact rfl
  | n + 1, _ :: _, _, ⟨v, r, h1, _, h3⟩ => by
    rw [h1]
    exact RpL.drop n h3
theorem RpL.take : ∀ (n : Nat) {ds : List D} {vs : List V}, RpL K F ds vs → RpL K F (ds.take n) (vs.take n)
  | 0, _, _, _ => rfl
  | n + 1, [], _, h => by
    have h' : _ = [] := h
    rw [h']
    exact rfl
  | n + 1, _ :: _, _, ⟨v, r, h1, h2, h3⟩ => by
    rw [h1]
    exact ⟨v, r.take n, rfl, h2, RpL.take n h3⟩
theorem RpL.reverse : ∀ {ds : List D} {vs : List V}, RpL K F ds vs → RpL K F ds.reverse vs.reverse
  | [], _, h => by
    have h' : _ = [] := h
    rw [h']
    exact rfl
  | _ :: _, _, ⟨v, r, h1, h2, h3⟩ => by
    rw [h1, List.reverse_cons, List.reverse_cons]
    exact RpL.append (RpL.reverse h3) (RpL.one h2)
theorem RpL.set {d : D} {v : V} (q : Rp K F d v) : ∀ (n : Nat) {ds : List D} {vs : List V}, RpL K F ds vs → RpL K F (ds.set n d) (vs.set n v)
  | _, [], _, h => by
    have h' : _ = [] := h
    rw [h']
    exact rfl
  | 0, _ :: _, _, ⟨w, r, h1, h2, h3⟩ => by
    rw [h1]
    exact ⟨v, r, rfl, q, h3⟩
  | n + 1, _ :: _, _, ⟨w, r, h1, h2, h3⟩ => by
    rw [h1]
    exact ⟨w, r.set n v, rfl, h2, RpL.set q n h3⟩
theorem RpL.rep {ds : List D} {vs : List V} (h : RpL K F ds vs) : ∀ k : Nat, RpL K F (List.replicate k ds).flatten (List.replicate k vs).flatten
  | 0 => rfl
  | k + 1 => by
    rw [List.replicate_succ, List.replicate_succ, List.flatten_cons, List.flatten_cons]
    exact RpL.append h (RpL.rep h k)
theorem RpL.dropLast {ds : List D} {vs : List V} (h : RpL K F ds vs) : RpL K F ds.dropLast vs.dropLast := by
  rw [List.dropLast_eq_take, List.dropLast_eq_take, h.length]
  exact RpL.take _ h
theorem RpL.ints : ∀ {ds : List D} {ns : List Int} {vs : List V}, ints? ds = some ns → RpL K F ds vs → vs = ns.map V.int
  | [], _, _, e, h => by
    have h' : _ = [] := h
    have e' := Option.some.inj e
    rw [h', ← e']
    rfl
  | .int i :: r, ns, _, e, ⟨v, w, h1, h2, h3⟩ => by
    have h2' : v = V.int i := h2
    cases q : ints? r with
    | none =>
      have e' : (ints? r).map (i :: ·) = some ns := e
      rw [q] at e'
      cases e'
    | some m =>
      have e' : (ints? r).map (i :: ·) = some ns := e
      rw [q] at e'
      have e2 : i :: m = ns := Option.some.inj e'
      rw [h1, h2', ← e2, RpL.ints q h3]
      rfl
  | .non :: _, _, _, e, _ => by cases e
  | .bl _ :: _, _, _, e, _ => by cases e
  | .str _ :: _, _, _, e, _ => by cases e
  | .tup _ :: _, _, _, e, _ => by cases e
  | .lst _ :: _, _, _, e, _ => by cases e
  | .dic _ _ _ :: _, _, _, e, _ => by cases e
  | .gl _ :: _, _, _, e, _ => by cases e
  | .scr _ :: _, _, _, e, _ => by cases e
theorem RpL.bls : ∀ {ds : List D} {ns : List Bool} {vs : List V}, bls? ds = some ns → RpL K F ds vs → vs = ns.map V.bl
  | [], _, _, e, h => by
    have h' : _ = [] := h
    have e' := Option.some.inj e
    rw [h', ← e']
    rfl
  | .bl i :: r, ns, _, e, ⟨v, w, h1, h2, h3⟩ => by
    have h2' : v = V.bl i := h2
    cases q : bls? r with
    | none =>
      have e' : (bls? r).map (i :: ·) = some ns := e
      rw [q] at e'
      cases e'
    | some m =>
      have e' : (bls? r).map (i :: ·) = some ns := e
      rw [q] at e'
      have e2 : i :: m = ns := Option.some.inj e'
      rw [h1, h2', ← e2, RpL.bls q h3]
      rfl
  | .non :: _, _, _, e, _ => by cases e
  | .int _ :: _, _, _, e, _ => by cases e
  | .str _ :: _, _, _, e, _ => by cases e
  | .tup _ :: _, _, _, e, _ => by cases e
  | .lst _ :: _, _, _, e, _ => by cases e
  | .dic _ _ _ :: _, _, _, e, _ => by cases e
  | .gl _ :: _, _, _, e, _ => by cases e
  | .scr _ :: _, _, _, e, _ => by cases e
theorem RpL.ofInts : ∀ ns : List Int, RpL K F (ns.map D.int) (ns.map V.int)
  | [] => rfl
  | n :: ns => ⟨V.int n, ns.map V.int, rfl, rfl, RpL.ofInts ns⟩
mutual
theorem Rp.dp (e : Same F H) : ∀ {d : D} {v : V}, d.plain = true → Rp K F d v → Dp K H v d.toPy
  | .non, _, _, h => by
    have h' : _ = V.non := h
    rw [h']
    exact .non
  | .bl b, _, _, h => by
    have h' : _ = V.bl b := h
    rw [h']
    exact .bl b
  | .int i, _, _, h => by
    have h' : _ = V.int i := h
    rw [h']
    exact .int i
  | .str x, _, _, h => by
    have h' : _ = V.str x := h
    rw [h']
    exact .str x
  | .tup ds, _, p, ⟨a, vs, h1, h2, h3⟩ => by
    rw [h1]
    exact .tup (Same.tupT e h2) (RpL.dps e (by simpa [D.plain] using p) h3)
  | .lst ds, _, p, ⟨a, vs, h1, h2, h3⟩ => by
    rw [h1]
    exact .lst (SqL.of (e _ _ h2)) (RpL.dps e (by simpa [D.plain] using p) h3)
  | .scr _, _, p, _ => by simp [D.plain] at p
  | .dic _ _ _, _, p, _ => by simp [D.plain] at p
  | .gl _, _, _, h => h.elim
theorem RpL.dps (e : Same F H) : ∀ {ds : List D} {vs : List V}, D.plains ds = true → RpL K F ds vs → DpAll K H vs (D.toPys ds)
  | [], _, _, h => by
    have h' : _ = [] := h
    rw [h']
    exact .nil
  | d :: ds, _, p, ⟨v, r, h1, h2, h3⟩ => by
    rw [D.plains, Bool.and_eq_true] at p
    rw [h1]
    exact .cons (Rp.dp e p.1 h2) (RpL.dps e p.2 h3)
end
end

/-- what an object holds: a list, a dict -/
def Ob (K : PySem.W.Frag) (F : Hp) (d : D) (o : HO) : Prop := match d with
  | .lst ds => ∃ vs, o = .lst vs ∧ RpL K F ds vs
  | .dic t ks ds => ∃ us, DkO t ks us o ∧ RpL K F ds us
  | _ => False
theorem Ob.mono {K : PySem.W.Frag} {F F' : Hp} {d : D} {o : HO} (e : Same F F') (h : Ob K F d o) : Ob K F' d o := by
  cases d with
  | lst ds =>
    obtain ⟨vs, h1, h2⟩ := h
    exact ⟨vs, h1, RpL.mono e h2⟩
  | dic t ks ds =>
    obtain ⟨us, h1, h2⟩ := h
    exact ⟨us, h1, RpL.mono e h2⟩
  | _ => exact h.elim
/-- .. as a value -/
theorem Ob.rp {K : PySem.W.Frag} {F : Hp} {d : D} {o : HO} {p : Addr} (h : Ob K F d o) (hp : F p = some o) : Rp K F d (.ref p) := by
  cases d with
  | lst ds =>
    obtain ⟨vs, rfl, h2⟩ := h
    exact ⟨p, vs, rfl, hp, h2⟩
  | dic t ks ds =>
    obtain ⟨us, h1, h2⟩ := h
    exact ⟨p, us, rfl, ⟨o, hp, h1⟩, h2⟩
  | _ => exact h.elim
theorem Ob.lst {K : PySem.W.Frag} {F : Hp} {ds : List D} {o : HO} (h : Ob K F (.lst ds) o) : ∃ vs, o = .lst vs ∧ RpL K F ds vs := h

/-! ### the frame -/
/-- what stood at the entry; the caller's list -/
structure Fx where
  H0 : Hp
  F0 : Hp
  pp : Option Addr
  ln : Nat → Option Addr
/-- all tuples are values -/
abbrev Tp (F H : Hp) : Prop := ∀ b vs, H b = some (.tup vs) → F b = some (.tup vs)
structure Rel (K : PySem.W.Frag) (B : Fx) (ρ : Rho) (σ : St) (F H : Hp) : Prop where
  sub : Same F H
  len : ρ.length = σ.length
  val : ∀ (i : Nat) (d : D), ρ[i]? = some (Sl.val d) → ∃ v, σ[i]? = some (some v) ∧ Rp K F d v
  own : ∀ (i m : Nat) (d : D), ρ[i]? = some (Sl.own m d) → ∃ p o, Ob K F d o ∧ σ[i]? = some (some (V.ref p)) ∧ F p = none ∧ H p = some o ∧ (m = 1 → B.pp = some p) ∧ (m ≠ 1 → B.H0 p = none)
  lent : ∀ (i : Nat) (d : D), ρ[i]? = some (Sl.lent d) → ∃ p ds vs, d = .lst ds ∧ σ[i]? = some (some (V.ref p)) ∧ F p = none ∧ B.H0 p = some (.lst vs) ∧ B.ln i = some p ∧ B.pp ≠ some p ∧ RpL K F ds vs
  lnk : ∀ (j : Nat) (q : Addr), B.ln j = some q → ∃ o, B.H0 q = some o
  sep : ∀ (i j m : Nat) (d : D) (m' : Nat) (d' : D) (p : Addr), ρ[i]? = some (Sl.own m d) → ρ[j]? = some (Sl.own m' d') → σ[i]? = some (some (V.ref p)) → σ[j]? = some (some (V.ref p)) → i = j
  keepH : ∀ a o, B.H0 a = some o → B.pp ≠ some a → H a = some o
  keepF : ∀ a o, B.H0 a = some o → B.F0 a = none → F a = none
  grow : Same B.F0 F
  pin : ∀ p, B.pp = some p → (∃ vs, H p = some (.lst vs)) ∧ ∃ o, B.H0 p = some o
  tup : Tp F H

/-- readable: a value, or the list of one's own as it stands -/
def Rq (K : PySem.W.Frag) (F H : Hp) (d : D) (v : V) : Prop := match d with
  | .lst ds => ∃ a vs, v = .ref a ∧ H a = some (.lst vs) ∧ RpL K F ds vs
  | .dic t ks ds => ∃ a us, v = .ref a ∧ (∃ o, H a = some o ∧ DkO t ks us o) ∧ RpL K F ds us
  | d => Rp K F d v
def Rs (K : PySem.W.Frag) (B : Fx) (ρ : Rho) (σ : St) (F H : Hp) (r : R) (v : V) : Prop := match r with
  | .dat d => Rp K F d v
  | .fre d => ∃ p o, Ob K F d o ∧ v = .ref p ∧ H p = some o ∧ F p = none ∧ B.H0 p = none ∧ ∀ (i m : Nat) (e : D), ρ[i]? = some (Sl.own m e) → σ[i]? ≠ some (some (V.ref p))
  | .pl i => (∃ s, ρ[i]? = some s ∧ s ≠ .no) ∧ σ[i]? = some (some v)

section
variable {K : PySem.W.Frag} {B : Fx} {ρ : Rho} {σ : St} {F F' H : Hp}
theorem Rq.of (e : Same F H) {d : D} {v : V} (h : Rp K F d v) : Rq K F H d v := by
  cases d with
  | lst ds =>
    obtain ⟨a, vs, h1, h2, h3⟩ := h
    exact ⟨a, vs, h1, e _ _ h2, h3⟩
  | dic t ks ds =>
    obtain ⟨a, us, h1, ⟨o, h2, h3⟩, h4⟩ := h
    exact ⟨a, us, h1, ⟨o, e _ _ h2, h3⟩, h4⟩
  | _ => exact h
/-- an object as it stands -/
theorem Ob.rq {d : D} {o : HO} {p : Addr} (h : Ob K F d o) (hp : H p = some o) : Rq K F H d (.ref p) := by
  cases d with
  | lst ds =>
    obtain ⟨vs, rfl, h2⟩ := h
    exact ⟨p, vs, rfl, hp, h2⟩
  | dic t ks ds =>
    obtain ⟨us, h1, h2⟩ := h
    exact ⟨p, us, rfl, ⟨o, hp, h1⟩, h2⟩
  | _ => exact h.elim
theorem Rq.dp (e : Same F H) {d : D} {v : V} (p : d.plain = true) (h : Rq K F H d v) : Dp K H v d.toPy := by
  cases d with
  | lst ds =>
    obtain ⟨a, vs, h1, h2, h3⟩ := h
    rw [h1]
    exact .lst (SqL.of h2) (RpL.dps e (by simpa [D.plain] using p) h3)
  | dic t ks ds => simp [D.plain] at p
  | _ => exact Rp.dp e p h
theorem same_upd {p : Addr} {o : HO} (h : F p = none) : Same F (upd F p o) := fun b u q => by
  rw [upd_ne (ne_of_none q h)]
  exact q
theorem Tp.upd {F H : Hp} (t : Tp F H) {p : Addr} {o : HO} (nt : ∀ vs, o ≠ .tup vs) : Tp F (L2.upd H p o) := fun b vs q => by
  by_cases e : b = p
  · subst e
    rw [upd_same] at q
    cases q
    exact absurd rfl (nt vs)
  · rw [upd_ne e] at q
    exact t b vs q
theorem DkO.nt {t : Bool} {ks : List D} {us : List V} {o : HO} (h : DkO t ks us o) : ∀ vs, o ≠ .tup vs := fun vs z => by
  subst z
  obtain ⟨_, h⟩ := h
  cases t with
  | false =>
    obtain ⟨_, _, e⟩ := h
    cases e
  | true =>
    obtain ⟨_, _, e⟩ := h
    cases e
theorem Ob.nt {K : PySem.W.Frag} {F : Hp} {d : D} {o : HO} (h : Ob K F d o) : ∀ vs, o ≠ .tup vs := by
  unfold Ob at h
  split at h
  · obtain ⟨_, rfl, _⟩ := h
    intro _ z
    cases z
  · obtain ⟨_, h, _⟩ := h
    exact h.nt
  · exact h.elim
/-- a new object: tracked alone -/
theorem Rel.lay (r : Rel K B ρ σ F H) {p : Addr} {o : HO} (h : H p = none) (nt : ∀ vs, o ≠ .tup vs := by intro _ z; cases z) : Rel K B ρ σ F (upd H p o) where
  sub := fun b u q => same_upd h b u (r.sub b u q)
  len := r.len
  val := r.val
  own := fun i m d e => by
    obtain ⟨q, o', h1, h2, h3, h4, h5⟩ := r.own i m d e
    exact ⟨q, o', h1, h2, h3, same_upd h _ _ h4, h5⟩
  lent := r.lent
  lnk := r.lnk
  sep := r.sep
  keepH := fun a u q z => same_upd h _ _ (r.keepH a u q z)
  keepF := r.keepF
  grow := r.grow
  pin := fun q e => ⟨let ⟨vs, x⟩ := (r.pin q e).1; ⟨vs, same_upd h _ _ x⟩, (r.pin q e).2⟩
  tup := fun b vs q => by
    by_cases e : b = p
    · subst e
      rw [upd_same] at q
      cases q
      exact absurd rfl (nt vs)
    · rw [upd_ne e] at q
      exact r.tup b vs q
theorem Rel.new0 (r : Rel K B ρ σ F H) {p : Addr} (h : H p = none) : B.H0 p = none := by
  cases e : B.H0 p with
  | none => rfl
  | some o =>
    by_cases z : B.pp = some p
    · obtain ⟨⟨vs, x⟩, _⟩ := r.pin p z
      rw [h] at x
      cases x
    · have x := r.keepH p o e z
      rw [h] at x
      cases x
theorem Rel.newF (r : Rel K B ρ σ F H) {p : Addr} (h : H p = none) : F p = none := Same.free r.sub h
/-- what is tracked turns into a value -/
theorem Rel.fix (r : Rel K B ρ σ F H) {p : Addr} {o : HO} (h : H p = some o) (hf : F p = none) (h0 : B.H0 p = none) (hn : ∀ (i m : Nat) (e : D), ρ[i]? = some (Sl.own m e) → σ[i]? ≠ some (some (V.ref p))) : Rel K B ρ σ (upd F p o) H where
  sub := fun b u q => by
    by_cases e : b = p
    · subst e
      rw [upd_same] at q
      cases q
      exact h
    · rw [upd_ne e] at q
      exact r.sub b u q
  len := r.len
  val := fun i d e => by
    obtain ⟨v, h1, h2⟩ := r.val i d e
    exact ⟨v, h1, Rp.mono (same_upd hf) h2⟩
  own := fun i m d e => by
    obtain ⟨q, o', h1, h2, h3, h4, h5⟩ := r.own i m d e
    have ne : q ≠ p := fun z => hn i m d e (by rw [h2, z])
    exact ⟨q, o', h1.mono (same_upd hf), h2, by rw [upd_ne ne]; exact h3, h4, h5⟩
  lent := fun i d e => by
    obtain ⟨q, ds, vs, h1, h2, h3, h4, h5, h6, h7⟩ := r.lent i d e
    have ne : q ≠ p := fun z => by
      rw [z, h0] at h4
      cases h4
    exact ⟨q, ds, vs, h1, h2, by rw [upd_ne ne]; exact h3, h4, h5, h6, RpL.mono (same_upd hf) h7⟩
  lnk := r.lnk
  sep := r.sep
  keepH := r.keepH
  keepF := fun a u q z => by
    have ne : a ≠ p := fun y => by
      rw [y, h0] at q
      cases q
    rw [upd_ne ne]
    exact r.keepF a u q z
  grow := fun b u q => same_upd hf _ _ (r.grow b u q)
  pin := r.pin
  tup := fun b vs q => same_upd hf _ _ (r.tup b vs q)
theorem Rel.notOwn (r : Rel K B ρ σ F H) {p : Addr} (h : H p = none) : ∀ (i m : Nat) (e : D), ρ[i]? = some (Sl.own m e) → σ[i]? ≠ some (some (V.ref p)) := fun i m e q z => by
  obtain ⟨q, o', h1, h2, h3, h4, h5⟩ := r.own i m e q
  rw [h2] at z
  cases z
  rw [h] at h4
  cases h4
/-- a list of one's own -/
theorem Rel.ownL (r : Rel K B ρ σ F H) {i m : Nat} {l : List D} (e : ρ[i]? = some (Sl.own m (.lst l))) : ∃ p vs, σ[i]? = some (some (V.ref p)) ∧ F p = none ∧ H p = some (.lst vs) ∧ RpL K F l vs ∧ (m = 1 → B.pp = some p) ∧ (m ≠ 1 → B.H0 p = none) := by
  obtain ⟨p, o, h1, h2, h3, h4, h5⟩ := r.own i m _ e
  obtain ⟨vs, rfl, h6⟩ := h1
  exact ⟨p, vs, h2, h3, h4, h6, h5⟩
theorem Rel.ownL' (r : Rel K B ρ σ F H) {i m : Nat} {d : D} (hd : ∃ l, d = .lst l) (e : ρ[i]? = some (Sl.own m d)) : ∃ p ds vs, d = .lst ds ∧ σ[i]? = some (some (V.ref p)) ∧ F p = none ∧ H p = some (.lst vs) ∧ RpL K F ds vs ∧ (m = 1 → B.pp = some p) ∧ (m ≠ 1 → B.H0 p = none) := by
  obtain ⟨l, rfl⟩ := hd
  obtain ⟨p, vs, h⟩ := r.ownL e
  exact ⟨p, l, vs, rfl, h⟩
theorem Rs.ofL {d : D} {v : V} (h : ∃ p ds vs, d = .lst ds ∧ v = .ref p ∧ H p = some (.lst vs) ∧ F p = none ∧ B.H0 p = none ∧ RpL K F ds vs ∧ ∀ (i m : Nat) (e : D), ρ[i]? = some (Sl.own m e) → σ[i]? ≠ some (some (V.ref p))) : Rs K B ρ σ F H (.fre d) v := by
  obtain ⟨p, ds, vs, rfl, rfl, h1, h2, h3, h4, h5⟩ := h
  exact ⟨p, .lst vs, ⟨vs, rfl, h4⟩, rfl, h1, h2, h3, h5⟩
/-- a new object, as a value -/
theorem Rel.put (r : Rel K B ρ σ F H) {p : Addr} {o : HO} (h : H p = none) : Rel K B ρ σ (upd F p o) (upd H p o) :=
  have hf := r.newF h
  { sub := fun b u q => by
      by_cases e : b = p
      · subst e
        rw [upd_same] at q ⊢
        exact q
      · rw [upd_ne e] at q ⊢
        exact r.sub b u q
    len := r.len
    val := fun i d e => by
      obtain ⟨v, h1, h2⟩ := r.val i d e
      exact ⟨v, h1, Rp.mono (same_upd hf) h2⟩
    own := fun i m d e => by
      obtain ⟨q, o', h1, h2, h3, h4, h5⟩ := r.own i m d e
      have ne : q ≠ p := fun z => by
        rw [z, h] at h4
        cases h4
      exact ⟨q, o', h1.mono (same_upd hf), h2, by rw [upd_ne ne]; exact h3, same_upd h _ _ h4, h5⟩
    lent := fun i d e => by
      obtain ⟨q, ds, vs, h1, h2, h3, h4, h5, h6, h7⟩ := r.lent i d e
      have ne : q ≠ p := fun z => by
        rw [z, r.new0 h] at h4
        cases h4
      exact ⟨q, ds, vs, h1, h2, by rw [upd_ne ne]; exact h3, h4, h5, h6, RpL.mono (same_upd hf) h7⟩
    lnk := r.lnk
    sep := r.sep
    keepH := fun a u q z => same_upd h _ _ (r.keepH a u q z)
    keepF := fun a u q z => by
      have ne : a ≠ p := fun y => by
        rw [y, r.new0 h] at q
        cases q
      rw [upd_ne ne]
      exact r.keepF a u q z
    grow := fun b u q => same_upd hf _ _ (r.grow b u q)
    pin := fun q e => ⟨let ⟨vs, x⟩ := (r.pin q e).1; ⟨vs, same_upd h _ _ x⟩, (r.pin q e).2⟩
    tup := fun b vs q => by
      by_cases e : b = p
      · subst e
        rw [upd_same] at q ⊢
        exact q
      · rw [upd_ne e] at q ⊢
        exact r.tup b vs q }
theorem Rs.mono0 {r : R} {v : V} (e : Same F F') (h : Rs K B ρ σ F H r v) (hr : ∀ d, r ≠ .fre d) {ρ' : Rho} {H' : Hp} (hp : ∀ i, r = .pl i → ∃ s, ρ'[i]? = some s ∧ s ≠ .no) : Rs K B ρ' σ F' H' r v := by
  cases r with
  | dat d => exact Rp.mono e h
  | fre d => exact absurd rfl (hr d)
  | pl i => exact ⟨hp i rfl, h.2⟩
def R.set : R → R
  | .fre d => .dat d
  | r => r
theorem fetch_set (ρ : Rho) (r : R) : fetch ρ r.set = fetch ρ r := by cases r <;> rfl
theorem give_set (ρ : Rho) (r : R) : give ρ r.set = give ρ r := by cases r <;> rfl
theorem lend_set (ρ : Rho) (r : R) : lend ρ r.set = lend ρ r := by cases r <;> rfl
/-- behind an expression its value is settled -/
theorem Rs.settle (r : Rel K B ρ σ F H) {q : R} {v : V} (h : Rs K B ρ σ F H q v) : ∃ F', Same F F' ∧ Rel K B ρ σ F' H ∧ Rs K B ρ σ F' H q.set v := by
  cases q with
  | dat d => exact ⟨F, Same.refl F, r, h⟩
  | pl i => exact ⟨F, Same.refl F, r, h⟩
  | fre d =>
    obtain ⟨p, o, h4, rfl, h1, h2, h3, h5⟩ := h
    refine ⟨_, same_upd h2, r.fix h1 h2 h3 h5, ?_⟩
    exact (h4.mono (same_upd h2)).rp upd_same
/-- a settled value, read later -/
theorem Rs.read {ρ0 : Rho} {F0 H0 : Hp} {q : R} {v : V} {d : D} (h : Rs K B ρ0 σ F0 H0 q.set v) (e : Same F0 F) (r : Rel K B ρ σ F H) (f : fetch ρ q = some d) : Rq K F H d v := by
  cases q with
  | dat x =>
    cases f
    exact Rq.of r.sub (Rp.mono e h)
  | fre x =>
    cases f
    exact Rq.of r.sub (Rp.mono e h)
  | pl i =>
    obtain ⟨_, hs⟩ := h
    unfold fetch at f
    cases c : ρ[i]? with
    | none => simp [c] at f
    | some s =>
      cases s with
      | no => simp [c] at f
      | val x =>
        simp [c] at f
        subst f
        obtain ⟨w, h1, h2⟩ := r.val i x c
        rw [hs] at h1
        cases h1
        exact Rq.of r.sub h2
      | own m x =>
        simp [c] at f
        subst f
        obtain ⟨p, o, h1, h2, h3, h4, _⟩ := r.own i m x c
        rw [hs] at h2
        cases h2
        exact h1.rq h4
      | lent x =>
        simp [c] at f
        subst f
        obtain ⟨p, ds, vs, h1, h2, h3, h4, h5, h6, h7⟩ := r.lent i x c
        rw [hs] at h2
        cases h2
        subst h1
        exact ⟨p, vs, rfl, r.keepH p _ h4 h6, h7⟩
/-- given away -/
theorem Rs.give {q : R} {v : V} {d : D} {ρ' : Rho} (h : Rs K B ρ σ F H q.set v) (r : Rel K B ρ σ F H) (f : give ρ q = some (d, ρ')) : ∃ F', Same F F' ∧ Rel K B ρ' σ F' H ∧ Rp K F' d v := by
  cases q with
  | dat x =>
    cases f
    exact ⟨F, Same.refl F, r, h⟩
  | fre x =>
    cases f
    exact ⟨F, Same.refl F, r, h⟩
  | pl i =>
    obtain ⟨_, hs⟩ := h
    unfold PI.give at f
    cases c : ρ[i]? with
    | none => simp [c] at f
    | some s =>
      cases s with
      | no => simp [c] at f
      | val x =>
        simp [c] at f
        obtain ⟨rfl, rfl⟩ := f
        obtain ⟨w, h1, h2⟩ := r.val i x c
        rw [hs] at h1
        cases h1
        exact ⟨F, Same.refl F, r, h2⟩
      | lent x => simp [c] at f
      | own m x =>
        match m with
        | m + 1 => simp [c] at f
        | 0 =>
          simp [c] at f
          obtain ⟨rfl, rfl⟩ := f
          obtain ⟨p, o, h5, h2, h3, h4, _, h7⟩ := r.own i 0 x c
          have h0 := h7 (by decide)
          rw [hs] at h2
          cases h2
          have hi : i < ρ.length := (List.getElem?_eq_some_iff.mp c).1
          refine ⟨upd F p o, same_upd h3, ?_, (h5.mono (same_upd h3)).rp upd_same⟩
          refine ⟨fun b u q => ?_, by rw [List.length_set]; exact r.len, fun j y e => ?_, fun j m y e => ?_, fun j y e => ?_, r.lnk, fun j k m y m' y' p' e1 e2 => ?_, r.keepH, fun a u q z => ?_, fun b u q => same_upd h3 _ _ (r.grow b u q), r.pin, fun b vs q => same_upd h3 _ _ (r.tup b vs q)⟩
          · by_cases e : b = p
            · subst e
              rw [upd_same] at q
              cases q
              exact h4
            · rw [upd_ne e] at q
              exact r.sub b u q
          · by_cases hj : i = j
            · subst hj
              rw [List.getElem?_set_self hi] at e
              cases e
              exact ⟨_, hs, (h5.mono (same_upd h3)).rp upd_same⟩
            · rw [List.getElem?_set_ne hj] at e
              obtain ⟨v, q1, q2⟩ := r.val j y e
              exact ⟨v, q1, Rp.mono (same_upd h3) q2⟩
          · have hj : i ≠ j := fun z => by
              subst z
              rw [List.getElem?_set_self hi] at e
              cases e
            rw [List.getElem?_set_ne hj] at e
            obtain ⟨q, o', g1, g2, g3, g4, g5⟩ := r.own j m y e
            have ne : q ≠ p := fun z => hj (r.sep i j _ _ _ _ p c e hs (by rw [g2, z]))
            exact ⟨q, o', g1.mono (same_upd h3), g2, by rw [upd_ne ne]; exact g3, g4, g5⟩
          · have hj : i ≠ j := fun z => by
              subst z
              rw [List.getElem?_set_self hi] at e
              cases e
            rw [List.getElem?_set_ne hj] at e
            obtain ⟨q, ds', vs', g1, g2, g3, g4, g5, g6, g7⟩ := r.lent j y e
            have ne : q ≠ p := fun z => by
              rw [z, h0] at g4
              cases g4
            exact ⟨q, ds', vs', g1, g2, by rw [upd_ne ne]; exact g3, g4, g5, g6, RpL.mono (same_upd h3) g7⟩
          · have hj : i ≠ j := fun z => by
              subst z
              rw [List.getElem?_set_self hi] at e1
              cases e1
            have hk : i ≠ k := fun z => by
              subst z
              rw [List.getElem?_set_self hi] at e2
              cases e2
            rw [List.getElem?_set_ne hj] at e1
            rw [List.getElem?_set_ne hk] at e2
            exact r.sep j k m y m' y' p' e1 e2
          · have ne : a ≠ p := fun y => by
              rw [y, h0] at q
              cases q
            rw [upd_ne ne]
            exact r.keepF a u q z
end

/-! ### ends -/
def Po {α : Type} (x : Out α) (ok : α → Prop) (er : Nat → List D → Rho → Prop) : Prop := match x with
  | .ok a => ok a
  | .err k pl r => er k pl r
  | .bad => False
theorem Po.bind {α β : Type} {x : Out α} {f : α → Out β} {ok : β → Prop} {er : Nat → List D → Rho → Prop} (h : Po (x >>= f) ok er) : Po x (fun a => Po (f a) ok er) er := by
  cases x <;> exact h
theorem Po.mono {α : Type} {x : Out α} {ok ok' : α → Prop} {er er' : Nat → List D → Rho → Prop} (h : Po x ok er) (h1 : ∀ a, ok a → ok' a) (h2 : ∀ k pl r, er k pl r → er' k pl r) : Po x ok' er' := by
  cases x with
  | ok a => exact h1 a h
  | err k pl r => exact h2 k pl r h
  | bad => exact h
theorem Po.ofO {α : Type} {x : Option α} {ok : α → Prop} {er : Nat → List D → Rho → Prop} (h : Po (ofO x) ok er) : ∃ a, x = some a ∧ ok a := by
  cases x with
  | none => exact h.elim
  | some a => exact ⟨a, rfl, h⟩
end PI
namespace PI
open PySem L2 PySem.Spec PyProof.Rows
theorem tup_once (l : Addr) (vs : Array Value) (n : Nat) (dd : Option Addr) (sl : Array (Option Value)) (u : Tok) :
    Meets (Builtin.«tuple.__mul__» ⟨[.ref l, .int 1 u], []⟩) (fun _ R s => s.heap.get? l = some { cls := .type "tuple", dict := dd, data := .seq vs n, slots := sl } ∧ R (.ok (.ret (Value.ref l))) s) :=
  .of_wp fun prog w A R s h => by
    obtain ⟨hp, g, d, tk, os⟩ := s
    obtain ⟨hl, h⟩ := h
    have f1 := AutoSeq1.idx_int
    have c1 : (vs.isEmpty || (1 : Int) == 1) = true := by simp
    wp_walk using wpAny_loadPart' hl
    exact ⟨_, rfl, h⟩
theorem op_once {X : Cx} : OpR X (binaryOp .Mult) (fun x y H Q => ∃ (l : Addr) (xs : List V), x = .ref l ∧ y = .int 1 ∧ SqT X.K H l xs ∧ Q (.ref l) H) := by
  intro pins s σ H x y v u Q I rx ry h
  obtain ⟨l, xs, rfl, rfl, hT, q⟩ := h
  cases rx
  obtain ⟨t, rfl⟩ := ry
  obtain ⟨its, r, ⟨⟨cls, dd, data, sl⟩, ho, hc, n, hd⟩, hs⟩ := I.tuple hT
  simp only at hc hd
  subst hc hd
  have goal : Q (.ref l) H := q
  refine wpAny_binaryOp_repeat_ref (T := "tuple") (U := "int") (by decide) ⟨_, ho, rfl⟩ (fun z => typeIs_int z 1 t) noFill_tuple_mul F.fills_int_mul
    F.slot_int_rmul repeat_tuple F.slot_int_index.lookup ?_
  refine call_meets F.slot_int_rmul (typeIs_int s 1 t) F.entry_int_rmul (F.args_int_rmul_2 _ _) (int_rmul_tuple 1 t l its.toArray n dd sl) ⟨ho, rfl, ⟨_, ho, rfl⟩, ?_⟩
  exact call_meets F.slot_tuple_mul ⟨_, ho, rfl⟩ F.entry_tuple_mul (F.args_tuple_mul_2 _ _) (tup_once l its.toArray n dd sl t) ⟨ho, ⟨.ref l, H, I.tok _, rfl, goal⟩⟩
end PI
/-! Dicts, whatever tuple is the key. -/
namespace PI
open PySem L2 PySem.Spec PyProof.Rows
section
variable {X : Cx} {pins : List (Addr × Obj)} {σ : L2.St} {H : Hp} {s : Shared} {a : Addr} {y v : V} {u r : Value} {o : Option V} {A : Around} {E : Value → Shared → Prop}
theorem key_ofT {b : Addr} {ks : List Key} (I : Inv X pins σ H s) (e : SqT X.K H b (ks.map kV)) : (tupleKind (mixKind X.prog X.w)).is s.heap ks b := by
  rcases e with e | ⟨o, its, n, h1, h2, h3, h4, h5⟩
  · obtain ⟨_, its, r, o, h1, h2, n, h3⟩ := (show ObjOk X.prog X.w H s.heap b (.tup (ks.map kV)) from e.ok I.hok)
    exact ⟨o, its.toArray, n, h1, h2, h3, by simpa using items_are r⟩
  · exact ⟨o, its, n, I.kIn b o h1, h2, h3, items_are h5⟩
/-- what the dict at a holds at the key y -/
def DGt (K : PySem.W.Frag) (H : Hp) (a : Addr) (y : V) (r : Option V) : Prop :=
  (∃ kvs k, Rd H a (.dK kvs) ∧ y = kV k ∧ r = valV kvs k) ∨ ∃ kvs k b, Rd H a (.dT kvs) ∧ y = .ref b ∧ SqT K H b (k.map kV) ∧ r = valV kvs k
theorem d_getT {Q : Value → Shared → Prop} (hu : A.units + 1 < cLine) (I : Inv X pins σ H s) (g : DGt X.K H a y (some v)) (ry : RelV y u) (h : ∀ w' s', Inv X pins σ H s' → RelV v w' → Q w' s') :
    wpAny (model X.prog X.w) A (getItem (.ref a) u) Q E s := by
  rcases g with ⟨kvs, k, e, ey, l⟩ | ⟨kvs, k, b, e, ey, eb, l⟩
  · exact d_getItem hu I (.inl ⟨kvs, k, e, ey, l⟩) ry h
  · subst ey
    cases (show u = Value.ref b from ry)
    obtain ⟨z, hd, xs, rel, dd⟩ := dt_rd I.hok e
    obtain ⟨w', hw, rw'⟩ := RelO.some_of (v := v) (o := (atKey xs k).map (·.2)) (by rw [l]; exact rel.val k)
    obtain ⟨p, hp, hp2⟩ := Option.map_eq_some_iff.mp hw
    refine wpAny_getItem_heap (tupleKind_room_in1 hu) (key_ofT I eb) dd hp ?_
    rw [hp2]
    exact h w' _ (I.tok _) rw'
theorem d_inT {Q : Value → Shared → Prop} (hu : A.units + 1 < cLine) (I : Inv X pins σ H s) (g : DGt X.K H a y o) (ry : RelV y u) (h : ∀ s', Inv X pins σ H s' → Q (.bool o.isSome) s') :
    wpAny (model X.prog X.w) A (compareOp .In u (.ref a)) Q E s := by
  rcases g with ⟨kvs, k, e, ey, l⟩ | ⟨kvs, k, b, e, ey, eb, l⟩
  · exact d_in hu I (.inl ⟨kvs, k, e, ey, l⟩) ry h
  · subst ey
    cases (show u = Value.ref b from ry)
    obtain ⟨z, hd, xs, rel, dd⟩ := dt_rd I.hok e
    refine wpAny_in_heap (tupleKind_room_in1 hu) (key_ofT I eb) hd dd ?_
    have q := (rel.val k).isSome_eq
    rw [Option.isSome_map] at q
    rw [← q, ← l]
    exact h _ (I.tok _)
theorem d_notInT {Q : Value → Shared → Prop} (hu : A.units + 1 < cLine) (I : Inv X pins σ H s) (g : DGt X.K H a y o) (ry : RelV y u) (h : ∀ s', Inv X pins σ H s' → Q (.bool (!o.isSome)) s') :
    wpAny (model X.prog X.w) A (compareOp .NotIn u (.ref a)) Q E s := by
  rcases g with ⟨kvs, k, e, ey, l⟩ | ⟨kvs, k, b, e, ey, eb, l⟩
  · exact d_notIn hu I (.inl ⟨kvs, k, e, ey, l⟩) ry h
  · subst ey
    cases (show u = Value.ref b from ry)
    obtain ⟨z, hd, xs, rel, dd⟩ := dt_rd I.hok e
    refine wpAny_notIn_heap (tupleKind_room_in1 hu) (key_ofT I eb) hd dd ?_
    have q := (rel.val k).isSome_eq
    rw [Option.isSome_map] at q
    rw [← q, ← l]
    exact h _ (I.tok _)
end
section
variable {X : Cx}
theorem dgt_typeIs {pins : List (Addr × Obj)} {σ : L2.St} {H : Hp} {s : Shared} {a : Addr} {y : V} {o : Option V} (I : Inv X pins σ H s) (g : DGt X.K H a y o) : s.TypeIs (.ref a) "dict" := by
  rcases g with ⟨kvs, k, e, _, _⟩ | ⟨kvs, k, b, e, _, _, _⟩
  · obtain ⟨_, _, vs, _, dd⟩ := dk_rd I.hok e
    exact dd.typeIs
  · obtain ⟨_, _, xs, _, dd⟩ := dt_rd I.hok e
    exact dd.typeIs
/-- d[y] -/
theorem ix_dict (hu : X.A.units + 1 < cLine) : IxR X (fun x y H Q => ∃ a v, x = .ref a ∧ DGt X.K H a y (some v) ∧ Q v H) := by
  intro ve se pins s σ H x y v u Q I rx ry h hs
  obtain ⟨a, w, rfl, g, q⟩ := h
  obtain rfl : v = Value.ref a := rx
  have hT := dgt_typeIs I g
  unfold subscriptTail
  refine wpAny_bind ?_
  rw [getitemInPython_of_ne hT.not_modules]
  refine wpAny_bind (wpAny_specialOf hT PySem.F.slot_dict_getitem.lookup ?_)
  have fin : wpAny (model X.prog X.w) X.A (subscripted se false (.ref a) u) (fun r s₃ => wpAny (model X.prog X.w) X.A (letTemporaryGo ve (.ref a) r >>= fun _ => pure r) (EP X pins σ Q) X.xe s₃) X.xe s := by
    rw [hs]
    exact wpAny_operating (d_getT hu I g ry fun w' s3 I3 rw' => wpAny_bind (wpAny_letTemporaryGo (wpAny_pure ⟨w, H, I3, rw', q⟩)))
  first
    | exact wpAny_pure (wpAny_bind fin)
    | exact wpAny_bind (wpAny_pure (wpAny_bind fin))
    | exact wpAny_bind fin
end
end PI
namespace PI
open PySem L2
theorem keyD_of {d : D} (h : keyA d = true) : ∃ k, keyD d = some k := by
  cases d <;> first | exact ⟨_, rfl⟩ | cases h
theorem keyD_eqv {a b : D} {i j : Key} (h : keyD a = some i) (g : keyD b = some j) : a.eqv b = decide (i = j) := by
  cases a <;> cases h <;> cases b <;> cases g <;> simp [D.eqv] <;> rfl
theorem keysD_eqv : ∀ {a b : List D} {i j : List Key}, a.mapM keyD = some i → b.mapM keyD = some j → D.eqvs a b = decide (i = j) := by
  intro a
  induction a with
  | nil =>
    intro b i j h g
    simp at h
    subst h
    cases b with
    | nil => simp at g; subst g; simp [D.eqvs]
    | cons y b =>
      rw [List.mapM_cons] at g
      cases e1 : keyD y with
      | none => simp [e1] at g
      | some k =>
        cases e2 : b.mapM keyD with
        | none => simp [e1, e2] at g
        | some r => simp [e1, e2] at g; subst g; simp [D.eqvs]
  | cons x a ih =>
    intro b i j h g
    rw [List.mapM_cons] at h
    cases f1 : keyD x with
    | none => simp [f1] at h
    | some kx =>
      cases f2 : a.mapM keyD with
      | none => simp [f1, f2] at h
      | some rx =>
        simp [f1, f2] at h
        subst h
        cases b with
        | nil => simp at g; subst g; simp [D.eqvs]
        | cons y b =>
          rw [List.mapM_cons] at g
          cases e1 : keyD y with
          | none => simp [e1] at g
          | some k =>
            cases e2 : b.mapM keyD with
            | none => simp [e1, e2] at g
            | some r =>
              simp [e1, e2] at g
              subst g
              rw [D.eqvs, keyD_eqv f1 e1, ih f2 e2]
              simp
/-- a lookup, by keys of any kind -/
theorem look_val {κ : Type} [DecidableEq κ] {K : PySem.W.Frag} {F : Hp} {f : D → Option κ} (hf : ∀ {a b : D} {i j : κ}, f a = some i → f b = some j → a.eqv b = decide (i = j)) {d : D} {k : κ} (hk : f d = some k) :
    ∀ {ks vs : List D} {us : List V} {js : List κ} {z : D}, ks.mapM f = some js → RpL K F vs us → lookD ks vs d = some z → ∃ w, valV (js.zip us) k = some w ∧ Rp K F z w
  | [], _, _, _, _, _, _, g => by cases g
  | _ :: _, [], _, _, _, _, _, g => by cases g
  | x :: ks, v :: vs, us, js, z, h, r, g => by
    obtain ⟨w, us', rfl, r1, r2⟩ := r
    rw [List.mapM_cons] at h
    cases f1 : f x with
    | none => simp [f1] at h
    | some kx =>
      cases f2 : ks.mapM f with
      | none => simp [f1, f2] at h
      | some rx =>
        simp [f1, f2] at h
        subst h
        rw [lookD, hf f1 hk] at g
        by_cases e : kx = k
        · simp [e] at g
          subst g
          exact ⟨w, by simp [valV, e], r1⟩
        · simp [e] at g
          obtain ⟨w', q1, q2⟩ := look_val hf hk f2 r2 g
          exact ⟨w', by rw [← q1]; simp [valV, e], q2⟩
theorem keysD_one {a b : D} {i j : List Key} (h : keysD a = some i) (g : keysD b = some j) : a.eqv b = decide (i = j) := by
  cases a <;> first | cases h | skip
  cases b <;> first | cases g | skip
  exact keysD_eqv h g
theorem kV_of {K : PySem.W.Frag} {F : Hp} {d : D} {k : Key} {v : V} (h : keyD d = some k) (r : Rp K F d v) : v = kV k := by
  cases d <;> cases h <;> exact r
theorem kVs_of {K : PySem.W.Frag} {F : Hp} : ∀ {ds : List D} {ks : List Key} {vs : List V}, ds.mapM keyD = some ks → RpL K F ds vs → vs = ks.map kV
  | [], ks, vs, h, r => by
    simp at h
    subst h
    exact r
  | d :: ds, ks, vs, h, ⟨v, r, e, r1, r2⟩ => by
    rw [List.mapM_cons] at h
    cases f1 : keyD d with
    | none => simp [f1] at h
    | some kx =>
      cases f2 : ds.mapM keyD with
      | none => simp [f1, f2] at h
      | some rx =>
        simp [f1, f2] at h
        subst h
        rw [e, kV_of f1 r1, kVs_of f2 r2]
        rfl
theorem keys_all : ∀ {ds : List D}, ds.all keyA = true → ∃ ks, ds.mapM keyD = some ks
  | [], _ => ⟨[], rfl⟩
  | d :: ds, h => by
    rw [List.all_cons, Bool.and_eq_true] at h
    obtain ⟨k, e1⟩ := keyD_of h.1
    obtain ⟨ks, e2⟩ := keys_all h.2
    exact ⟨k :: ks, by rw [List.mapM_cons, e1, e2]; rfl⟩
theorem look_get {K : PySem.W.Frag} {F H : Hp} (sub : Same F H) {t : Bool} {ks vs : List D} {us : List V} {a : Addr} {o : HO} {d z : D} {y : V} (ha : H a = some o) (ho : DkO t ks us o) (r : RpL K F vs us) (hk : keyOk t d = true) (hy : Rq K F H d y) (g : lookD ks vs d = some z) :
    ∃ w, DGt K H a y (some w) ∧ Rp K F z w := by
  obtain ⟨_, ho⟩ := ho
  cases t with
  | false =>
    obtain ⟨js, e1, rfl⟩ := ho
    obtain ⟨k, e2⟩ := keyD_of (d := d) hk
    have hy' : Rp K F d y := by cases d <;> first | exact hy | cases e2
    obtain rfl := kV_of e2 hy'
    obtain ⟨w, q1, q2⟩ := look_val (f := keyD) keyD_eqv e2 e1 r g
    exact ⟨w, .inl ⟨_, k, .inl ha, rfl, q1.symm⟩, q2⟩
  | true =>
    obtain ⟨js, e1, rfl⟩ := ho
    cases d with
    | tup xs =>
      obtain ⟨k, e2⟩ := keys_all (ds := xs) hk
      obtain ⟨b, ws, rfl, h1, h2⟩ := hy
      have e3 := kVs_of e2 h2
      subst e3
      obtain ⟨w, q1, q2⟩ := look_val (f := keysD) keysD_one (d := .tup xs) (k := k) e2 e1 r g
      exact ⟨w, .inr ⟨_, k, b, .inl ha, rfl, Same.tupT sub h1, q1.symm⟩, q2⟩
    | _ => cases hk
/-! ### a pair put in -/
theorem mapM_lenK {α β : Type} {f : α → Option β} : ∀ {l : List α} {r : List β}, l.mapM f = some r → r.length = l.length
  | [], r, h => by
    simp at h
    subst h
    rfl
  | x :: l, r, h => by
    rw [List.mapM_cons] at h
    cases f1 : f x with
    | none => simp [f1] at h
    | some a =>
      cases f2 : l.mapM f with
      | none => simp [f1, f2] at h
      | some q =>
        simp [f1, f2] at h
        subst h
        simp [mapM_lenK f2]
theorem any_key {κ : Type} [DecidableEq κ] {f : D → Option κ} (hf : ∀ {a b : D} {i j : κ}, f a = some i → f b = some j → a.eqv b = decide (i = j)) {d : D} {k : κ} (hk : f d = some k) :
    ∀ {ks : List D} {us : List V} {js : List κ}, ks.mapM f = some js → ks.length = us.length → ks.any (fun x => x.eqv d) = (js.zip us).any fun kv => decide (kv.1 = k)
  | [], us, js, h, _ => by
    simp at h
    subst h
    rfl
  | x :: ks, [], js, h, e => by simp at e
  | x :: ks, u :: us, js, h, e => by
    rw [List.mapM_cons] at h
    cases f1 : f x with
    | none => simp [f1] at h
    | some kx =>
      cases f2 : ks.mapM f with
      | none => simp [f1, f2] at h
      | some rx =>
        simp [f1, f2] at h
        subst h
        rw [List.any_cons, hf f1 hk, any_key hf hk (us := us) f2 (by simpa using e)]
        rfl
theorem repl_key {κ : Type} [DecidableEq κ] {K : PySem.W.Frag} {F : Hp} {f : D → Option κ} (hf : ∀ {a b : D} {i j : κ}, f a = some i → f b = some j → a.eqv b = decide (i = j)) {d v : D} {k : κ} {w : V} (hk : f d = some k) (hv : Rp K F v w) :
    ∀ {ks vs : List D} {us : List V} {js : List κ}, ks.mapM f = some js → ks.length = us.length → RpL K F vs us → ∃ us', RpL K F (replD d v ks vs) us' ∧ us'.length = us.length ∧ js.zip us' = (js.zip us).map fun kv => if kv.1 = k then (kv.1, w) else kv
  | [], vs, us, js, h, e, r => by
    simp at h
    subst h
    have e' : us = [] := List.eq_nil_of_length_eq_zero e.symm
    subst e'
    exact ⟨[], rfl, rfl, rfl⟩
  | x :: ks, vs, [], js, h, e, r => by simp at e
  | x :: ks, [], u :: us, js, h, e, r => by simp [RpL] at r
  | x :: ks, y :: vs, u :: us, js, h, e, r => by
    obtain ⟨u', us', e2, r1, r2⟩ := r
    cases e2
    rw [List.mapM_cons] at h
    cases f1 : f x with
    | none => simp [f1] at h
    | some kx =>
      cases f2 : ks.mapM f with
      | none => simp [f1, f2] at h
      | some rx =>
        simp [f1, f2] at h
        subst h
        obtain ⟨zs, z1, z2, z3⟩ := repl_key hf hk hv f2 (by simpa using e) r2
        rw [replD, hf f1 hk]
        by_cases c : kx = k
        · exact ⟨w :: zs, ⟨w, zs, rfl, by simpa [c] using hv, z1⟩, by simp [z2], by simp [c, z3]⟩
        · exact ⟨u :: zs, ⟨u, zs, rfl, by simpa [c] using r1, z1⟩, by simp [z2], by simp [c, z3]⟩
theorem mapM_snoc {α β : Type} {f : α → Option β} {x : α} {y : β} (h : f x = some y) : ∀ {l : List α} {r : List β}, l.mapM f = some r → (l ++ [x]).mapM f = some (r ++ [y])
  | [], r, e => by
    simp at e
    subst e
    simp [h]
  | z :: l, r, e => by
    rw [List.mapM_cons] at e
    cases f1 : f z with
    | none => simp [f1] at e
    | some a =>
      cases f2 : l.mapM f with
      | none => simp [f1, f2] at e
      | some q =>
        simp [f1, f2] at e
        subst e
        rw [List.cons_append, List.mapM_cons, f1, mapM_snoc h f2]
        rfl
theorem put_key {κ : Type} [DecidableEq κ] {K : PySem.W.Frag} {F : Hp} {f : D → Option κ} (hf : ∀ {a b : D} {i j : κ}, f a = some i → f b = some j → a.eqv b = decide (i = j)) {d v : D} {k : κ} {w : V} (hk : f d = some k) (hv : Rp K F v w)
    {ks vs : List D} {us : List V} {js : List κ} (h : ks.mapM f = some js) (e : ks.length = us.length) (r : RpL K F vs us) : ∃ js' us', (putD d v ks vs).1.mapM f = some js' ∧ (putD d v ks vs).1.length = us'.length ∧ RpL K F (putD d v ks vs).2 us' ∧ js'.zip us' = putK (js.zip us) k w := by
  unfold putD putK
  rw [← any_key hf hk h e]
  by_cases c : ks.any (fun x => x.eqv d) = true
  · obtain ⟨us', h1, h2, h3⟩ := repl_key hf hk hv h e r
    simp only [c, if_true]
    exact ⟨js, us', h, by rw [e, h2], h1, h3⟩
  · simp only [c, if_false]
    refine ⟨js ++ [k], us ++ [w], mapM_snoc hk h, by simp [e], RpL.append r (RpL.one hv), ?_⟩
    have := mapM_lenK h
    simp [List.zip_append (show js.length = us.length by omega)]
end PI
/-! Dicts: an empty one is of either kind; stores; what stands in them. -/
namespace PI
open PySem L2 PySem.Spec PyProof.Rows
section
variable {X : Cx} {pins : List (Addr × Obj)} {σ : L2.St} {H : Hp} {s : Shared} {a : Addr} {A : Around} {E : Value → Shared → Prop}
/-- an empty dict, to have tuples as keys -/
theorem retT (I : Inv X pins σ H s) (e : H a = some (.dK [])) : Inv X pins σ (upd H a (.dT [])) s := by
  obtain ⟨z, hd, vs, rel, o, es, ep, h1, h2, h3, _, h5, _⟩ := dk_of I.hok e
  cases rel
  have he : es.toList = [] := by
    cases q : es.toList with
    | nil => rfl
    | cons x l => rw [q] at h5; cases h5
  have mu : Mut (H a) := by rw [e]; exact True.intro
  have hs : Heap.SameBut a s.heap s.heap := ⟨rfl, fun _ _ => rfl⟩
  exact d_write (h' := s.heap) (t' := s.toks) I mu hs ⟨o, h1⟩ ⟨Nat.zero_le _, hd, [], .nil, o, es, ep, h1, h2, h3, he, List.nodup_nil⟩
/-- .. to have ints and texts as keys -/
theorem retK (I : Inv X pins σ H s) (e : H a = some (.dT [])) : Inv X pins σ (upd H a (.dK [])) s := by
  obtain ⟨z, hd, xs, rel, o, es, ep, h1, h2, h3, h5, _⟩ := (I.hok a _ e : ObjOk X.prog X.w H s.heap a (.dT []))
  cases rel
  have he : es = #[] := by
    have q : es.toList = [] := h5
    exact Array.toList_eq_nil_iff.mp q
  subst he
  have mu : Mut (H a) := by rw [e]; exact True.intro
  have hs : Heap.SameBut a s.heap s.heap := ⟨rfl, fun _ _ => rfl⟩
  exact d_write (h' := s.heap) (t' := s.toks) I mu hs ⟨o, h1⟩ ⟨Nat.zero_le _, hd, [], .nil, o, #[], ep, h1, h2, h3, fun x hx => absurd hx (by simp), .nil, List.nodup_nil⟩
theorem upd_back {o : HO} (e : H a = some o) : upd H a o = H := by
  funext b
  unfold upd
  split
  · rename_i h
    rw [h, e]
  · rfl
/-- the dict at a has the key y, whatever its kind -/
def DHas (K : PySem.W.Frag) (H : Hp) (a : Addr) (y : V) (z : Bool) : Prop :=
  (∃ r, DGt K H a y r ∧ z = r.isSome) ∨ (H a = some (.dK []) ∧ z = false ∧ ∃ (k : List Key) (b : Addr), y = .ref b ∧ H b = some (.tup (k.map kV))) ∨ (H a = some (.dT []) ∧ z = false ∧ ∃ k, y = kV k)
theorem d_has {u : Value} {y : V} {z : Bool} {Q : Value → Shared → Prop} (hu : A.units + 1 < cLine) (I : Inv X pins σ H s) (g : DHas X.K H a y z) (ry : RelV y u) (h : ∀ s', Inv X pins σ H s' → Q (.bool z) s') :
    wpAny (model X.prog X.w) A (compareOp .In u (.ref a)) Q E s := by
  rcases g with ⟨r, g, rfl⟩ | ⟨e, rfl, k, b, rfl, hb⟩ | ⟨e, rfl, k, rfl⟩
  · exact d_inT hu I g ry h
  · have hne : b ≠ a := fun z => by subst z; rw [hb] at e; cases e
    refine d_inT (o := none) hu (retT I e) (.inr ⟨[], k, b, .inl upd_same, rfl, .inl (.inl ?_), rfl⟩) ry fun s' I' => ?_
    · rw [upd_ne hne]
      exact hb
    · have I2 := retK I' upd_same
      rw [upd_upd, upd_back e] at I2
      exact h s' I2
  · refine d_inT (o := none) hu (retK I e) (.inl ⟨[], k, .inl upd_same, rfl, rfl⟩) ry fun s' I' => ?_
    have I2 := retT I' upd_same
    rw [upd_upd, upd_back e] at I2
    exact h s' I2
theorem d_hasNot {u : Value} {y : V} {z : Bool} {Q : Value → Shared → Prop} (hu : A.units + 1 < cLine) (I : Inv X pins σ H s) (g : DHas X.K H a y z) (ry : RelV y u) (h : ∀ s', Inv X pins σ H s' → Q (.bool (!z)) s') :
    wpAny (model X.prog X.w) A (compareOp .NotIn u (.ref a)) Q E s := by
  rcases g with ⟨r, g, rfl⟩ | ⟨e, rfl, k, b, rfl, hb⟩ | ⟨e, rfl, k, rfl⟩
  · exact d_notInT hu I g ry h
  · have hne : b ≠ a := fun z => by subst z; rw [hb] at e; cases e
    refine d_notInT (o := none) hu (retT I e) (.inr ⟨[], k, b, .inl upd_same, rfl, .inl (.inl ?_), rfl⟩) ry fun s' I' => ?_
    · rw [upd_ne hne]
      exact hb
    · have I2 := retK I' upd_same
      rw [upd_upd, upd_back e] at I2
      exact h s' I2
  · refine d_notInT (o := none) hu (retK I e) (.inl ⟨[], k, .inl upd_same, rfl, rfl⟩) ry fun s' I' => ?_
    have I2 := retT I' upd_same
    rw [upd_upd, upd_back e] at I2
    exact h s' I2
/-- a store -/
def DSt (H : Hp) (a : Addr) (y v : V) (H' : Hp) : Prop :=
  DPut H a y v H' ∨ (H a = some (.dK []) ∧ ∃ (k : List Key) (b : Addr), y = .ref b ∧ H b = some (.tup (k.map kV)) ∧ H' = upd H a (.dT [(k, v)])) ∨ (H a = some (.dT []) ∧ ∃ k, y = kV k ∧ H' = upd H a (.dK [(k, v)]))
theorem d_store {u r : Value} {y v : V} {H' : Hp} {Q : Unit → Shared → Prop} (hu : A.units + 1 < cLine) (I : Inv X pins σ H s) (g : DSt H a y v H') (ry : RelV y u) (rv : RelV v r) (h : ∀ s', Inv X pins σ H' s' → Q () s') :
    wpAny (model X.prog X.w) A (setItem (.ref a) u r) Q E s := by
  rcases g with g | ⟨e, k, b, rfl, hb, rfl⟩ | ⟨e, k, rfl, rfl⟩
  · exact d_setItem hu I g ry rv h
  · have hne : b ≠ a := fun z => by subst z; rw [hb] at e; cases e
    refine d_setItem hu (retT I e) (DPut.t (k := k) (v := v) upd_same (by rw [upd_ne hne]; exact hb) (by rw [sizeLine_eq]; decide)) ry rv fun s' I' => h s' ?_
    rw [upd_upd] at I'
    exact I'
  · refine d_setItem hu (retK I e) (DPut.k (k := k) (v := v) upd_same (by rw [sizeLine_eq]; decide)) ry rv fun s' I' => h s' ?_
    rw [upd_upd] at I'
    exact I'
def rSetD : V → V → V → Hp → (Hp → Prop) → Prop := fun o i v H Q => ∃ a H', o = .ref a ∧ DSt H a i v H' ∧ Q H'
theorem set_dict (hu : X.A.units + 1 < cLine) : PSet X rSetD := by
  intro pins s σ H o i v ov iv u Q I ro ri rv h
  obtain ⟨a, H', rfl, g, q⟩ := h
  cases ro
  exact d_store hu I g ri rv fun s' I' => ⟨H', I', q⟩
theorem PSet.or {r r' : TSet} (h : PSet X r) (h' : PSet X r') : PSet X (fun o i v H Q => r o i v H Q ∨ r' o i v H Q) := by
  intro pins s σ H o i v ov iv u Q I ro ri rv q
  rcases q with q | q
  · exact h pins s σ H o i v ov iv u Q I ro ri rv q
  · exact h' pins s σ H o i v ov iv u Q I ro ri rv q
end
/-- a lookup's answer -/
theorem look_any {κ : Type} [DecidableEq κ] {f : D → Option κ} (hf : ∀ {a b : D} {i j : κ}, f a = some i → f b = some j → a.eqv b = decide (i = j)) {d : D} {k : κ} (hk : f d = some k) {ks : List D} {us : List V} {js : List κ} (h : ks.mapM f = some js) (e : ks.length = us.length) :
    (valV (js.zip us) k).isSome = ks.any fun x => x.eqv d := by
  rw [any_key hf hk h e, valV_any]
theorem has_of {K : PySem.W.Frag} {F H : Hp} (sub : Same F H) {t : Bool} {ks : List D} {us : List V} {a : Addr} {o : HO} {d : D} {y : V} (ha : H a = some o) (ho : DkO t ks us o) (hk : keyOk (kindK t ks d) d = true) (hy : Rq K F H d y) :
    DHas K H a y (ks.any fun x => x.eqv d) := by
  obtain ⟨hl, ho⟩ := ho
  have tupH : ∀ xs, d = .tup xs → xs.all keyA = true → ∃ (k : List Key) (b : Addr), keysD d = some k ∧ y = .ref b ∧ H b = some (.tup (k.map kV)) := fun xs e hx => by
    subst e
    obtain ⟨k, e2⟩ := keys_all (ds := xs) hx
    obtain ⟨b, ws, rfl, h1, h2⟩ := hy
    have e3 := kVs_of e2 h2
    subst e3
    exact ⟨k, b, e2, rfl, sub _ _ h1⟩
  have keyH : keyA d = true → ∃ k, keyD d = some k ∧ y = kV k := fun hd => by
    obtain ⟨k, e2⟩ := keyD_of hd
    have hy' : Rp K F d y := by cases d <;> first | exact hy | cases e2
    exact ⟨k, e2, kV_of e2 hy'⟩
  cases ks with
  | nil =>
    obtain rfl : us = [] := List.eq_nil_of_length_eq_zero hl.symm
    cases d with
    | tup xs =>
      obtain ⟨k, b, e1, e2, e3⟩ := tupH xs rfl hk
      cases t with
      | false =>
        obtain ⟨js, _, rfl⟩ := ho
        exact .inr (.inl ⟨by rw [ha]; simp, rfl, k, b, e2, e3⟩)
      | true =>
        obtain ⟨js, g, rfl⟩ := ho
        simp at g
        subst g
        exact .inl ⟨none, .inr ⟨[], k, b, .inl ha, e2, .inl (.inl e3), rfl⟩, rfl⟩
    | int i =>
      obtain ⟨k, e1, e2⟩ := keyH rfl
      cases t with
      | false =>
        obtain ⟨js, g, rfl⟩ := ho
        simp at g
        subst g
        exact .inl ⟨none, .inl ⟨[], k, .inl ha, e2, rfl⟩, rfl⟩
      | true =>
        obtain ⟨js, _, rfl⟩ := ho
        exact .inr (.inr ⟨by rw [ha]; simp, rfl, k, e2⟩)
    | str i =>
      obtain ⟨k, e1, e2⟩ := keyH rfl
      cases t with
      | false =>
        obtain ⟨js, g, rfl⟩ := ho
        simp at g
        subst g
        exact .inl ⟨none, .inl ⟨[], k, .inl ha, e2, rfl⟩, rfl⟩
      | true =>
        obtain ⟨js, _, rfl⟩ := ho
        exact .inr (.inr ⟨by rw [ha]; simp, rfl, k, e2⟩)
    | _ => cases hk
  | cons x ks =>
    have hk' : keyOk t d = true := hk
    cases t with
    | false =>
      obtain ⟨js, g, rfl⟩ := ho
      obtain ⟨k, e1, e2⟩ := keyH hk'
      exact .inl ⟨_, .inl ⟨_, k, .inl ha, e2, rfl⟩, (look_any (f := keyD) keyD_eqv e1 g hl).symm⟩
    | true =>
      obtain ⟨js, g, rfl⟩ := ho
      cases d with
      | tup xs =>
        obtain ⟨k, b, e1, e2, e3⟩ := tupH xs rfl hk'
        exact .inl ⟨_, .inr ⟨_, k, b, .inl ha, e2, .inl (.inl e3), rfl⟩, (look_any (f := keysD) keysD_one e1 g hl).symm⟩
      | _ => cases hk'
/-- a store, plainly -/
theorem st_of {K : PySem.W.Frag} {F H : Hp} (sub : Same F H) {t : Bool} {ks vs : List D} {us : List V} {a : Addr} {o : HO} {d z : D} {y w : V} (ha : H a = some o) (ho : DkO t ks us o) (r : RpL K F vs us) (hk : keyOk (kindK t ks d) d = true) (hn : ks.length < sizeLine) (hy : Rq K F H d y) (hz : Rp K F z w) :
    ∃ o' us', DSt H a y w (upd H a o') ∧ DkO (kindK t ks d) (putD d z ks vs).1 us' o' ∧ RpL K F (putD d z ks vs).2 us' := by
  obtain ⟨hl, ho⟩ := ho
  have tupH : ∀ xs, d = .tup xs → xs.all keyA = true → ∃ (k : List Key) (b : Addr), keysD d = some k ∧ y = .ref b ∧ H b = some (.tup (k.map kV)) := fun xs e hx => by
    subst e
    obtain ⟨k, e2⟩ := keys_all (ds := xs) hx
    obtain ⟨b, ws, rfl, h1, h2⟩ := hy
    have e3 := kVs_of e2 h2
    subst e3
    exact ⟨k, b, e2, rfl, sub _ _ h1⟩
  have keyH : keyA d = true → ∃ k, keyD d = some k ∧ y = kV k := fun hd => by
    obtain ⟨k, e2⟩ := keyD_of hd
    have hy' : Rp K F d y := by cases d <;> first | exact hy | cases e2
    exact ⟨k, e2, kV_of e2 hy'⟩
  have caseK : t = false → keyA d = true → kindK t ks d = false → ∃ o' us', DSt H a y w (upd H a o') ∧ DkO (kindK t ks d) (putD d z ks vs).1 us' o' ∧ RpL K F (putD d z ks vs).2 us' := fun e1 e2 e3 => by
    subst e1
    obtain ⟨js, g, rfl⟩ := ho
    obtain ⟨k, e4, e5⟩ := keyH e2
    obtain ⟨js', us', p1, p2, p3, p4⟩ := put_key (f := keyD) keyD_eqv e4 hz g hl r
    have hm := mapM_lenK g
    refine ⟨_, us', .inl (.inl ⟨_, k, ha, e5, by simp; omega, rfl⟩), ?_, p3⟩
    rw [e3]
    exact ⟨p2, js', p1, by rw [p4]⟩
  have caseT : ∀ xs, t = true → d = .tup xs → xs.all keyA = true → kindK t ks d = true → ∃ o' us', DSt H a y w (upd H a o') ∧ DkO (kindK t ks d) (putD d z ks vs).1 us' o' ∧ RpL K F (putD d z ks vs).2 us' := fun xs e1 e2 e2' e3 => by
    subst e1
    obtain ⟨js, g, rfl⟩ := ho
    obtain ⟨k, b, e4, e5, e6⟩ := tupH xs e2 e2'
    obtain ⟨js', us', p1, p2, p3, p4⟩ := put_key (f := keysD) keysD_one e4 hz g hl r
    have hm := mapM_lenK g
    refine ⟨_, us', .inl (.inr ⟨_, k, b, ha, e5, e6, by simp; omega, rfl⟩), ?_, p3⟩
    rw [e3]
    exact ⟨p2, js', p1, by rw [p4]⟩
  cases ks with
  | cons x ks =>
    have hk' : keyOk t d = true := hk
    cases t with
    | false => exact caseK rfl hk' rfl
    | true => cases d with
      | tup xs => exact caseT xs rfl rfl hk' rfl
      | _ => cases hk'
  | nil =>
    obtain rfl : us = [] := List.eq_nil_of_length_eq_zero hl.symm
    have hp : putD d z [] vs = ([d], vs ++ [z]) := rfl
    have hv : vs = [] := by cases vs with | nil => rfl | cons v vs => simp [RpL] at r
    subst hv
    cases d with
    | tup xs =>
      obtain ⟨k, b, e4, e5, e6⟩ := tupH xs rfl hk
      cases t with
      | true => exact caseT xs rfl rfl hk rfl
      | false =>
        obtain ⟨js, g, rfl⟩ := ho
        refine ⟨.dT [(k, w)], [w], .inr (.inl ⟨by rw [ha]; simp, k, b, e5, e6, rfl⟩), ⟨rfl, [k], ?_, rfl⟩, RpL.one hz⟩
        rw [hp]
        show [D.tup xs].mapM keysD = some [k]
        simp [e4]
    | int i =>
      obtain ⟨k, e4, e5⟩ := keyH rfl
      cases t with
      | false => exact caseK rfl rfl rfl
      | true =>
        obtain ⟨js, g, rfl⟩ := ho
        refine ⟨.dK [(k, w)], [w], .inr (.inr ⟨by rw [ha]; simp, k, e5, rfl⟩), ⟨rfl, [k], ?_, rfl⟩, RpL.one hz⟩
        rw [hp]
        show [D.int i].mapM keyD = some [k]
        simp [e4]
    | str i =>
      obtain ⟨k, e4, e5⟩ := keyH rfl
      cases t with
      | false => exact caseK rfl rfl rfl
      | true =>
        obtain ⟨js, g, rfl⟩ := ho
        refine ⟨.dK [(k, w)], [w], .inr (.inr ⟨by rw [ha]; simp, k, e5, rfl⟩), ⟨rfl, [k], ?_, rfl⟩, RpL.one hz⟩
        rw [hp]
        show [D.str i].mapM keyD = some [k]
        simp [e4]
    | _ => cases hk
end PI
/-! Dict comprehensions, keys of any kind. -/
namespace PI
open PySem L2 PySem.Spec PyProof.Rows
section
variable {X : Cx} {pins : List (Addr × Obj)} {σ : L2.St} {H : Hp} {s : Shared} {a : Addr} {E : Value → Shared → Prop}
theorem d_layT {r : Value} {v : V} {kvs : List (List Key × V)} {k : List Key} {b : Addr} {Q : Unit → Shared → Prop} (hu : X.A.units + 1 < cLine) (I : Inv X pins σ H s) (e : H a = some (.dT kvs)) (eb : H b = some (.tup (k.map kV))) (l : kvs.length < sizeLine) (rv : RelV v r)
    (h : ∀ s', Inv X pins σ (upd H a (.dT (putK kvs k v))) s' → Q () s') : wpAny (model X.prog X.w) X.A (dictSet a (.ref b) r) Q E s := by
  obtain ⟨z, hd, xs, rel, dd⟩ := dt_of I.hok e
  have hx : xs.length ≤ sizeLine := by rw [← Paired.length rel]; exact z
  have hk : (putK kvs k v).length ≤ sizeLine := by have := length_putK kvs k v; omega
  refine wpAny_dictSet_heap (hsz := hx) (by show X.A.units < cLine; omega) (key_of I.hok eb) dd fun h' dd' hs => h _ ?_
  obtain ⟨q, es, ep, hq, h2, h3, h4, _, h5⟩ := dd'
  have mu : Mut (H a) := by rw [e]; exact True.intro
  refine d_write I mu hs ⟨q, hq⟩ ⟨hk, hd, _, (rel.put k eb rv).keeps fun c ys ec => ?_, q, es, ep, hq, h2, h3, h4, h5⟩
  rw [upd_ne (ne_of ec e fun z => nomatch z)]
  exact ec
theorem d_lay {u r : Value} {y v : V} {H' : Hp} {Q : Unit → Shared → Prop} (hu : X.A.units + 1 < cLine) (I : Inv X pins σ H s) (g : DSt H a y v H') (ry : RelV y u) (rv : RelV v r) (h : ∀ s', Inv X pins σ H' s' → Q () s') :
    wpAny (model X.prog X.w) X.A (dictSet a u r) Q E s := by
  rcases g with (⟨kvs, k, e, rfl, l, rfl⟩ | ⟨kvs, k, b, e, rfl, eb, l, rfl⟩) | ⟨e, k, b, rfl, hb, rfl⟩ | ⟨e, k, rfl, rfl⟩
  · exact d_dictSet I e l ry rv h
  · cases ry
    exact d_layT hu I e eb l rv h
  · cases ry
    have hne : b ≠ a := fun z => by subst z; rw [hb] at e; cases e
    refine d_layT (k := k) hu (retT I e) upd_same (by rw [upd_ne hne]; exact hb) (by rw [sizeLine_eq]; decide) rv fun s' I' => h s' ?_
    rw [upd_upd] at I'
    exact I'
  · refine d_dictSet (k := k) (retK I e) upd_same (by rw [sizeLine_eq]; decide) ry rv fun s' I' => h s' ?_
    rw [upd_upd] at I'
    exact I'
end
section
variable {X : Cx}
/-- {k: v for target in iter if ..}: D the new dict -/
def tDcG (wi : TI) (g : TG) (tt : TT) (tk tv : TE) (vs : List Nat) : TE := fun σ H Q => wi σ H fun J H1 => ∀ D, H1 D = none → ∃ W : Nat → Nat → Hp → Prop, (∃ m, W 0 m (upd H1 D (.dK []))) ∧ ∀ i m H, W i m H →
  (J.stop i H ∧ Q (.ref D) H) ∨ (J.go i H ∧ ∃ Nx : Hp → Prop, (∀ H', Nx H' → ∃ m', m' < m ∧ W (i + 1) m' H') ∧ ∀ x H', J.yld i H x H' → g x (wipe σ vs) H' fun σ2 H2 => wipe σ2 vs = wipe σ vs ∧ tt σ2 H2 fun b H3 =>
    if b = true then tk σ2 H3 fun y H4 => tv σ2 H4 fun z H5 => ∃ H6, DSt H5 D y z H6 ∧ Nx H6 else Nx H3)
theorem dcG_core {pins : List (Addr × Obj)} {σ : L2.St} {H : Hp} {s : Shared} {Q : VK} {use : Option (Value → Sem Unit)} {Qf : Value → Shared → Prop} {pos' : Pos} {kx vx tg iter : Expr} {ifs : List Expr} {scope : Scope} {own : List (Str × Nat)} {pos : Pos} {wi : TI} {g : TG} {tt : TT} {tk tv : TE} (hu : X.A.units + 1 < cLine) (hc : X.calm = true) (hN : X.N.Nodup) (I : Inv X pins σ H s) (hi : PI X tg iter wi) (ok : BlkOk X.N X.env.scope scope own)
    (hg : ∀ s H C cl fp, PG (X.blk s H scope (compEnvC scope cl C X.env) fp) tg g) (ht : ∀ s H C cl fp, PTs (X.blk s H scope (compEnvC scope cl C X.env) fp) ifs tt)
    (hk : ∀ s H C cl fp, PE (X.blk s H scope (compEnvC scope cl C X.env) fp) kx tk) (he : ∀ s H C cl fp, PE (X.blk s H scope (compEnvC scope cl C X.env) fp) vx tv) (hs : ∀ x, foldedSetIterable iter X.env x = pure x)
    (h : tDcG wi g tt tk tv (own.map (·.2)) σ H Q)
    (hR : ∀ D C s' m H', Inv X pins σ H' s' → Q (.ref D) H' → s'.heap.Ns C m → FpOk X pins H' C → compPost (model X.prog X.w) X.A X.xe use Qf (.ref D) C (.ok .next) s') :
    wpAny (model X.prog X.w) X.A (comprehension (.DictComp kx vx [⟨tg, iter, ifs, 0⟩] scope pos) scope X.env pos' newDict false (eval iter X.env) use) Qf X.xe s := by
  have frees : ∀ y ∈ scope.names, y.2 = .free → ∃ c, X.env.cells.lookup y.1 = some c := fun y hy e => (ok.free y hy e).elim (fun k => I.ok.has _ (.inl k)) fun k => I.ok.has _ (.inr k)
  have own1 : ∀ y ∈ scope.names, y.2 = .free → y = (y.1, .free) := fun y hy e => by rw [← e]
  refine wpAny_comprehension_free (use := use) rfl hs (closure_ok frees) ok.kind (fun y hy e => by rw [ok.uniq y hy, e]) (thn (hi.run pins s σ H _ I h) fun xv s1 hx => thn hx fun itv s2 hx2 => ?_)
  obtain ⟨it, fp, tn, J, H2, rfl, I2, T, st2, f2, q⟩ := hx2
  refine wpAny_newObj_type (newEnv_comp ?_)
  generalize hD : s2.heap.objs.size = D
  have free2 : H2 D = none := I2.hok.fresh (Nat.le_of_eq hD)
  obtain ⟨W, ⟨m0, w0⟩, turn⟩ := q D free2
  generalize hs3 : ({ s2 with heap := s2.heap.push { cls := .type "dict", data := .dict #[] } } : Shared) = s3
  have I3 : Inv X pins σ (upd H2 D (.dK [])) s3 := by
    subst hD
    rw [← hs3]
    exact I2.laid (t' := s2.toks) (fun b o e => Heap.get?_push_of_some _ e) (Nat.le_refl _) (dk_empty s2.heap I2.big)
  have h3 : s3.heap = s2.heap.push { cls := .type "dict", data := .dict #[] } := by rw [← hs3]
  have f3 : ∀ b ∈ fp, FpOk X pins (upd H2 D (.dK [])) b ∧ b < s3.heap.objs.size := fun b hb => by
    obtain ⟨o, e, _⟩ := T.obj _ _ st2 b hb
    have lt := Heap.lt_size e
    have ne : b ≠ D := fun z => by rw [z, ← hD] at lt; exact Nat.lt_irrefl _ lt
    exact ⟨⟨by rw [upd_ne ne]; exact (f2 b hb).1, (f2 b hb).2⟩, by rw [h3, Heap.size_push]; exact Nat.lt_succ_of_lt lt⟩
  have I4 := block_start I3 ok hN f3
  have st3 : tn 0 s3.heap := T.keep _ _ _ st2 fun b _ o e => by rw [h3]; exact Heap.get?_push_of_some _ e
  have pg := hg s3 (upd H2 D (.dK [])) s3.heap.objs.size (cellsFrom (s3.heap.objs.size + 1) scope.names (cloFrom X.env.cells scope.names [])) fp
  have pt := ht s3 (upd H2 D (.dK [])) s3.heap.objs.size (cellsFrom (s3.heap.objs.size + 1) scope.names (cloFrom X.env.cells scope.names [])) fp
  have pk := hk s3 (upd H2 D (.dK [])) s3.heap.objs.size (cellsFrom (s3.heap.objs.size + 1) scope.names (cloFrom X.env.cells scope.names [])) fp
  have pv := he s3 (upd H2 D (.dK [])) s3.heap.objs.size (cellsFrom (s3.heap.objs.size + 1) scope.names (cloFrom X.env.cells scope.names [])) fp
  show codeAny _ _ (.compStart (.DictComp kx vx [⟨tg, iter, ifs, 0⟩] scope pos) 0 (.ref it) (.ref D) (compEnvC scope (cellsFrom (s3.heap.objs.size + 1) scope.names (cloFrom X.env.cells scope.names [])) s3.heap.objs.size X.env)) (compPost (model X.prog X.w) X.A X.xe use _ (.ref D) s3.heap.objs.size) _
  have fpn : ∀ b ∈ fp, (upd H2 D (.dK [])) b = none := fun b hb => (f3 b hb).1.1
  generalize hce : compEnvC scope (cellsFrom (s3.heap.objs.size + 1) scope.names (cloFrom X.env.cells scope.names [])) s3.heap.objs.size X.env = ce at I4 pg pt pk pv ⊢
  have loc3 : ce.locals = s3.heap.objs.size := by rw [← hce]; rfl
  generalize hH3 : upd H2 D (.dK []) = H3 at I3 I4 pg pt pk pv w0 fpn f3
  generalize hs4 : ({ s3 with heap := pushCells (s3.heap.push { cls := .type "dict", data := .dict #[] }) scope.names } : Shared) = s4 at I4 ⊢
  have st4 : tn 0 s4.heap := T.keep _ _ _ st3 fun b _ o e => by rw [← hs4]; exact pushCells_keeps _ _ _ _ (Heap.get?_push_of_some _ e)
  have fpY : ∀ {σ' : L2.St} {H' : Hp} {s' : Shared}, Inv (X.blk s3 H3 scope ce fp) [] σ' H' s' → (∀ b ∈ fp, H' b = none) → ∀ b ∈ fp, FpOk (X.blk s3 H3 scope ce fp) [] H' b := fun {σ' H' s'} I' hn b hb =>
    have z1 := I'.ok.exf b hb
    ⟨hn b hb, z1.1, I'.ok.exfs b hb, .inl hb, fun x c e => z1.2 x c e, fun p hp => absurd (show p ∈ ([] : List (Addr × Obj)) ++ [] from hp) (by simp)⟩
  let Lp : Nat → Shared → Prop := fun n s' => ∃ i H', Inv (X.blk s3 H3 scope ce fp) [] (wipe σ (own.map (·.2))) H' s' ∧ tn i s'.heap ∧ (∀ b ∈ fp, H' b = none) ∧ W i n H'
  have loop : codeAny (model X.prog X.w) X.A (.compLoop (.DictComp kx vx [⟨tg, iter, ifs, 0⟩] scope pos) 0 (.ref it) (.ref D) ce) (compPost (model X.prog X.w) X.A X.xe use Qf (.ref D) s3.heap.objs.size) s4 := by
    refine compLoop_anyD Lp (fun n s5 hL => ?_) m0 ⟨0, H3, I4, st4, fpn, w0⟩
    obtain ⟨i, H5, I5, st5, n5, w5⟩ := hL
    have stay := fpY I5 n5
    rcases turn i n H5 w5 with ⟨stop, qq⟩ | ⟨go, Nx, hNx, step⟩
    · refine thnF (T.done (X.blk s3 H3 scope ce fp) rfl rfl rfl hc i [] s5 _ H5 (fun _ _ => False) I5 stay st5 stop) fun r s6 ⟨hr, I6⟩ => ?_
      subst hr
      have I7 : Inv X pins σ H5 s6 := I3.call' (ch := fp) I6.os I6.base I6.hok I6.bare fun b hb => have z := (f3 b hb).1.2; ⟨z.2.2.1, z.1, z.2.2.2.1, z.2.2.2.2⟩
      have no5 : H5 s3.heap.objs.size = none := by
        rw [← loc3]
        exact I6.free
      obtain ⟨m, hm, _⟩ := I6.loc
      have hm2 : s6.heap.Ns s3.heap.objs.size m := by
        rw [← loc3]
        exact hm
      exact hR D s3.heap.objs.size s6 m H5 I7 qq hm2 (I3.fpOk (Nat.le_refl _) no5)
    · refine thnF (T.item (X.blk s3 H3 scope ce fp) rfl rfl rfl hc i [] s5 _ H5 (fun _ _ => False) I5 stay st5 go) fun r s6 ⟨u, hr, h6⟩ => ?_
      subst hr
      refine thnF h6 fun _ s7 ⟨x, H7, I7, r7, y7, st7, n7⟩ => ?_
      refine thnF (pg.run _ s7 _ H7 x u _ (I7.pinned (fpY I7 n7) (T.obj _ _ st7)) r7 (step x H7 y7)) fun _ s8 ⟨σ8, H8, I8, w8, q8⟩ => ?_
      refine thnF (pt.run _ s8 σ8 H8 _ I8 q8) fun b s9 ⟨H9, I9, q9⟩ => ?_
      have same : (wipe σ (own.map (·.2))).length = σ8.length := by rw [← w8, wipe_length]
      have fin : ∀ {s' : Shared} {H' : Hp}, Inv (X.blk s3 H3 scope ce fp) ([] ++ pinsAt fp s7.heap) σ8 H' s' → Nx H' → ∃ m, m < n ∧ Lp m s' := fun {s' H'} I' nx => by
        obtain ⟨m', lt, w'⟩ := hNx H' nx
        have keep : ∀ b ∈ fp, ∀ o, s7.heap.get? b = some o → s'.heap.get? b = some o ∧ H' b = none := fun b hb o e => by
          have z := I'.pin (b, o) (List.mem_append_right _ (List.mem_append_right _ (mem_pinsAt hb e)))
          exact ⟨z.1, z.2.1⟩
        have I'' := (I'.unpinned (pins := [])).weak same (fun j v e => (wipe_some (w8 ▸ e)).1)
        refine ⟨m', lt, i + 1, H', I'', T.keep _ _ _ st7 fun b hb o e => (keep b hb o e).1, fun b hb => ?_, w'⟩
        obtain ⟨o, e, _⟩ := T.obj _ _ st7 b hb
        exact (keep b hb o e).2
      cases b with
      | false => exact fin I9 (by simpa using q9)
      | true =>
        have q9' := q9
        simp only [if_true] at q9' ⊢
        refine thnF (pk.run _ s9 σ8 H9 _ I9 q9') fun z s10 ⟨yk, H10, I10, r10, q10⟩ => ?_
        refine thnF (pv.run _ s10 σ8 H10 _ I10 q10) fun z2 s11 ⟨yv, H11, I11, r11, H12, st, nx⟩ => ?_
        exact d_lay (X := X.blk s3 H3 scope ce fp) hu I11 st r10 r11 fun s12 I12 => fin I12 nx
  exact codeAny_compStart_dict loop (T.self X.A 0 _ _ _ st4 loop)
theorem pe_dcG {kx vx tg iter : Expr} {ifs : List Expr} {scope : Scope} {own : List (Str × Nat)} {pos : Pos} {wi : TI} {g : TG} {tt : TT} {tk tv : TE} (hu : X.A.units + 1 < cLine) (hc : X.calm = true) (hN : X.N.Nodup) (hi : PI X tg iter wi) (ok : BlkOk X.N X.env.scope scope own)
    (hg : ∀ s H C cl fp, PG (X.blk s H scope (compEnvC scope cl C X.env) fp) tg g) (ht : ∀ s H C cl fp, PTs (X.blk s H scope (compEnvC scope cl C X.env) fp) ifs tt)
    (hk : ∀ s H C cl fp, PE (X.blk s H scope (compEnvC scope cl C X.env) fp) kx tk) (he : ∀ s H C cl fp, PE (X.blk s H scope (compEnvC scope cl C X.env) fp) vx tv) (hs : ∀ x, foldedSetIterable iter X.env x = pure x) :
    PE X (.DictComp kx vx [⟨tg, iter, ifs, 0⟩] scope pos) (tDcG wi g tt tk tv (own.map (·.2))) := ⟨fun pins s σ H Q I h => by
  rw [arm_eval_DictComp]
  refine dcG_core (use := none) (Qf := EP X pins σ Q) hu hc hN I hi ok hg ht hk he hs h fun D C s' m H' I' q hm f => ⟨m, hm, fun h2 sb => ⟨.ref D, H', ?_, rfl, q⟩⟩
  exact I'.turned (t' := s'.toks) (fun b o hb e => (sb.2 b hb).trans e) f.1 f.2.1 f.2.2.2.1 f.2.2.2.2.1 f.2.2.2.2.2⟩
/-- name = {..} on one line -/
theorem ps_setDcG {i : Nat} {y : Str} {py : Pos} {kx vx tg iter : Expr} {ifs : List Expr} {scope : Scope} {own : List (Str × Nat)} {pos spos : Pos} {wi : TI} {g : TG} {tt : TT} {tk tv : TE} (hu : X.A.units + 1 < cLine) (hc : X.calm = true) (hN : X.N.Nodup) (hy : X.N[i]? = some y) (hyl : X.env.scope.names.lookup y = some .local)
    (hsw : swapsWith (.DictComp kx vx [⟨tg, iter, ifs, 0⟩] scope pos) (some (.Name y py)) spos.line X.env = pure true) (hi : PI X tg iter wi) (ok : BlkOk X.N X.env.scope scope own)
    (hg : ∀ s H C cl fp, PG (X.blk s H scope (compEnvC scope cl C X.env) fp) tg g) (ht : ∀ s H C cl fp, PTs (X.blk s H scope (compEnvC scope cl C X.env) fp) ifs tt)
    (hk : ∀ s H C cl fp, PE (X.blk s H scope (compEnvC scope cl C X.env) fp) kx tk) (he : ∀ s H C cl fp, PE (X.blk s H scope (compEnvC scope cl C X.env) fp) vx tv) (hs : ∀ x, foldedSetIterable iter X.env x = pure x) :
    PS X (.Assign [.Name y py] (.DictComp kx vx [⟨tg, iter, ifs, 0⟩] scope pos) spos) (tAsg (tDcG wi g tt tk tv (own.map (·.2))) (gName i)) := ⟨fun pins s σ H D I h => by
  rw [exec_Assign_Name_used _ _ _ _ hsw]
  refine wpAny_bind (wpAny_standAt (wpAny_bind ?_))
  have h' : tDcG wi g tt tk tv (own.map (·.2)) σ H (fun x H1 => gName i x σ H1 D.nx) := h
  show wpAny _ X.A (do let _ ← comprehension (.DictComp kx vx [⟨tg, iter, ifs, 0⟩] scope pos) scope X.env (firstIterPos [⟨tg, iter, ifs, 0⟩] pos) newDict false (eval iter X.env) (some (assign (.Name y py) X.env))) _ _ s
  have core := dcG_core (Q := fun x H1 => gName i x σ H1 D.nx) (use := some (assign (.Name y py) X.env)) (Qf := fun _ s' => SP X pins D .next s') (pos' := firstIterPos [⟨tg, iter, ifs, 0⟩] pos) (pos := pos) hu hc hN I hi ok hg ht hk he hs h' fun L C s' m H' I' q hm f => by
    show wpAny _ _ (assign (.Name y py) X.env (.ref L)) _ _ _
    refine wpAny_assign_Name (store_ok2 (v := V.ref L) I' hN hy (.inl hyl) rfl (fun s2 I2 ⟨a, sb, ha⟩ => ?_) (.inr hyl))
    have ne : C ≠ a := ha.elim (fun z => z ▸ f.2.1) fun z e => f.2.2.2.2.1 y a z e.symm
    refine ⟨m, hm.sameBut sb ne, fun h3 sb3 => ⟨_, H', ?_, q⟩⟩
    exact I2.turned (t' := s2.toks) (fun b o hb e => (sb3.2 b hb).trans e) f.1 f.2.1 f.2.2.2.1 f.2.2.2.2.1 f.2.2.2.2.2
  exact wpAny_bind (thn core fun _ s' hq => wpAny_pure (wpAny_pure hq))⟩
end
end PI
/-! dict(pairs), the keys tuples. -/
namespace PI
open PySem L2 PySem.Spec PyProof.Rows
def mergeT (kvs more : List (List Key × V)) : List (List Key × V) := more.foldl (fun acc kv => putK acc kv.1 kv.2) kvs
theorem KT.merge {H : Hp} : ∀ {more : List (List Key × V)} {ps : List (List Key × Addr × Value)} {kvs : List (List Key × V)} {xs : List (List Key × Addr × Value)}, KT H more ps → KT H kvs xs → KT H (mergeT kvs more) (PySem.storedAllH xs ps) := by
  intro more ps kvs xs r
  unfold KT at r
  induction r generalizing kvs xs with
  | nil => intro q; exact q
  | @cons p q ps qs h t ih =>
    intro r0
    obtain ⟨h1, h2, h3⟩ := h
    have e := r0.put p.1 (b := q.2.1) h2 h3
    have e' : KT H (putK kvs p.1 p.2) (storedH xs q.1 q.2.1 q.2.2) := by
      rw [← h1]
      exact e
    exact ih e'
theorem mergeT_len : ∀ (more kvs : List (List Key × V)), (mergeT kvs more).length ≤ kvs.length + more.length
  | [], kvs => Nat.le_add_right _ _
  | p :: r, kvs => by
    have h1 := mergeT_len r (putK kvs p.1 p.2)
    have h2 := length_putK kvs p.1 p.2
    show (mergeT (putK kvs p.1 p.2) r).length ≤ _
    simp only [List.length_cons]
    omega
section
variable {X : Cx} {pins : List (Addr × Obj)} {σ : L2.St} {H : Hp} {s : Shared}
/-- p is a pair of a tuple and a value -/
def PrT (K : PySem.W.Frag) (H : Hp) (p : Addr) (kv : List Key × V) : Prop := ∃ b, SqT K H p [.ref b, kv.2] ∧ H b = some (.tup (kv.1.map kV))
theorem prsT_of (I : Inv X pins σ H s) : ∀ {ps : List Addr} {kvs : List (List Key × V)}, Paired (PrT X.K H) ps kvs →
    ∃ prs : List (List Key × Addr × Value), KT H kvs prs ∧ prs.length = ps.length ∧ ∀ (j : Nat) (q : List Key × Addr × Value), prs[j]? = some q → ∃ p, ps[j]? = some p ∧ IsTup s.heap p #[.ref q.2.1, q.2.2]
  | _, _, .nil => ⟨[], .nil, rfl, fun j q e => by simp at e⟩
  | _, _, .cons (a := p) (b := kv) h t => by
    obtain ⟨prs, r, hl, hp⟩ := prsT_of I t
    obtain ⟨b, h1, h2⟩ := h
    obtain ⟨its, rv, ht, _⟩ := I.tuple h1
    obtain ⟨u, y, ei, ru, ry⟩ := vals2 rv
    subst ei
    cases ru
    refine ⟨(kv.1, b, y) :: prs, .cons ⟨rfl, h2, ry⟩ r, by simp [hl], fun j q e => ?_⟩
    cases j with
    | zero =>
      cases (show some (kv.1, b, y) = some q from e)
      exact ⟨p, rfl, ht⟩
    | succ j =>
      obtain ⟨p', e1, e2⟩ := hp j q (by simpa using e)
      exact ⟨p', by simpa using e1, e2⟩
theorem call_dictT (hu : X.A.units + 2 < cLine) (hcalm : X.calm = true) : CallR X (.type "dict") (fun xs H Q => ∃ (a : Addr) (ps : List Addr) (kvs : List (List Key × V)), xs = [.ref a] ∧ SqL X.K H a (ps.map V.ref) ∧ Paired (PrT X.K H) ps kvs ∧
    ∀ p, H p = none → Q (.ref p) (upd H p (.dT (mergeT [] kvs)))) := by
  intro pins s σ H xs us Q I r ⟨a, ps, kvs, ex, hq, hp, q⟩
  subst ex
  obtain ⟨u, eu, rx⟩ := vals1 r
  subst eu
  cases rx
  obtain ⟨its, rv, pl, hz⟩ := I.list hq
  have ei := refs_at rv
  subst ei
  rw [List.length_map] at hz
  obtain ⟨prs, rel, hl, hpr⟩ := prsT_of I hp
  obtain ⟨o, n, ho, hc, hd, hdat⟩ := pl
  have arg := PySem.PairArg.list (prog := X.prog) (w := X.w) a ((ps.map Value.ref).toArray) (fun j => ps.getD j 0) (prs.map fun q => (Value.ref q.2.1, q.2.2))
  have len : (prs.map fun q => (Value.ref q.2.1, q.2.2)).length = ps.length := by simp [hl]
  have okA : PySem.PlainSeq "list" s.heap a (ps.map Value.ref).toArray ∧ PySem.PairItems s.heap (ps.map Value.ref).toArray (fun j => ps.getD j 0) (prs.map fun q => (Value.ref q.2.1, q.2.2)) := by
    refine ⟨⟨o, n, ho, hc, hd, hdat⟩, by simp [hl], fun j k v e => ?_⟩
    rw [List.getElem?_map] at e
    obtain ⟨q', e1, e2⟩ := Option.map_eq_some_iff.mp e
    obtain ⟨p, e3, o2, ho2, hc2, n2, hd2⟩ := hpr j q' e1
    cases e2
    have e4 : ps.getD j 0 = p := by simp [List.getD_eq_getElem?_getD, e3]
    exact ⟨by simp [e3, e4], .inl (by show s.heap.IsTuple (ps.getD j 0) _; rw [e4]; exact ⟨o2, ho2, hc2, n2, hd2⟩)⟩
  refine PySem.call_dict_pairsH (knd := tupleKind (mixKind X.prog X.w)) (ps := prs) arg (I.ok.hd hcalm) (by show X.A.units + 2 < cLine; exact hu) okA ⟨by simp, fun i key v e => ?_⟩ (fun h' hk x hx => ?_) (by rw [len]; exact hz) fun h' tk hd' hk => ?_
  · have e' : (prs.map fun q => (Value.ref q.2.1, q.2.2))[i]? = some (key, v) := e
    rw [List.getElem?_map] at e'
    obtain ⟨q', e1, e2⟩ := Option.map_eq_some_iff.mp e'
    cases e2
    exact ⟨q'.1, q'.2.1, by rw [e1], rfl⟩
  · obtain ⟨kv, h1, h2, h3⟩ := rel.right _ hx
    have hb : H x.2.1 = some (.tup (x.1.map kV)) := by rw [← h1]; exact h2
    obtain ⟨ob, its, m, g1, g2, g3, g4⟩ := key_of I.hok hb
    exact ⟨ob, its, m, hk _ _ (Nat.ne_of_lt (Heap.lt_size g1)) (by simp) g1, g2, g3, g4⟩
  · have hm : (s.heap.objs.size == sysModules) = false := beq_eq_false_iff_ne.mpr (Nat.ne_of_gt I.big)
    have hlen : (mergeT [] kvs).length ≤ sizeLine := by
      have h1 := mergeT_len kvs []
      have h2 : kvs.length = prs.length := Paired.length rel
      simp only [List.length_nil, Nat.zero_add] at h1
      omega
    have new : H s.heap.objs.size = none := I.hok.fresh (Nat.le_refl _)
    obtain ⟨ob, es, ep, g1, g2, g3, g4, _, g5⟩ := hd'
    have kt := (KT.merge rel (kvs := []) (xs := []) .nil).keeps (H' := upd H s.heap.objs.size (.dT (mergeT [] kvs))) fun c ys ec => by
      rw [upd_ne (ne_of_none ec new)]
      exact ec
    exact ⟨.ref s.heap.objs.size, _, I.laid (t' := tk) (o := .dT (mergeT [] kvs)) (fun b o e => hk b o (by simp) e) (Nat.le_refl _) ⟨hlen, hm, _, kt, ob, es, ep, g1, g2, g3, g4, g5⟩, rfl, q _ new⟩
end
end PI
/-! sorted(..) of tuples of ints, of any length, and of dicts. -/
namespace PI
open PySem L2 PySem.Spec PyProof.Rows Srt SrtO
/-! ### the order -/
theorem iTup_irr : ∀ a : List Int, iTup a a = false
  | [] => rfl
  | x :: a => by
    rw [iTup, if_pos rfl]
    exact iTup_irr a
theorem iTup_asym : ∀ a b : List Int, iTup a b = true → iTup b a = false
  | [], [], h => by cases h
  | [], y :: b, _ => rfl
  | x :: a, [], h => by cases h
  | x :: a, y :: b, h => by
    rw [iTup] at h ⊢
    by_cases e : x = y
    · rw [if_pos e] at h
      rw [if_pos e.symm]
      exact iTup_asym a b h
    · rw [if_neg e, decide_eq_true_eq] at h
      rw [if_neg fun z => e z.symm]
      simp
      omega
theorem iTup_tri : ∀ a b : List Int, iTup a b = false → iTup b a = false → a = b
  | [], [], _, _ => rfl
  | [], y :: b, h, _ => by cases h
  | x :: a, [], _, h => by cases h
  | x :: a, y :: b, h, g => by
    rw [iTup] at h g
    by_cases e : x = y
    · rw [if_pos e] at h
      rw [if_pos e.symm] at g
      rw [e, iTup_tri a b h g]
    · rw [if_neg e, decide_eq_false_iff_not] at h
      rw [if_neg fun z => e z.symm, decide_eq_false_iff_not] at g
      omega
theorem iTup_trans : ∀ a b c : List Int, iTup a b = true → iTup b c = true → iTup a c = true
  | _, [], [], _, h => by cases h
  | [], _ :: _, [], _, h => by cases h
  | _ :: _, _ :: _, [], _, h => by cases h
  | [], _, _ :: _, _, _ => rfl
  | _ :: _, [], _ :: _, h, _ => by cases h
  | x :: a, y :: b, z :: c, h, g => by
    rw [iTup] at h g ⊢
    by_cases e : x = y
    · subst e
      by_cases e2 : x = z
      · subst e2
        simp only [if_true] at h g ⊢
        exact iTup_trans a b c h g
      · rw [if_neg e2] at g ⊢
        exact g
    · rw [if_neg e, decide_eq_true_eq] at h
      by_cases e2 : y = z
      · subst e2
        rw [if_neg e]
        simpa using h
      · rw [if_neg e2, decide_eq_true_eq] at g
        rw [if_neg (by omega), decide_eq_true_eq]
        omega
theorem swo_iTup {α : Type} (k : α → List Int) : Swo fun v u => iTup (k v) (k u) := by
  refine ⟨fun x y h => iTup_asym _ _ h, fun x y z h1 h2 => ?_⟩
  cases q : iTup (k z) (k x) with
  | false => rfl
  | true =>
    cases q1 : iTup (k x) (k y) with
    | true =>
      have := iTup_trans _ _ _ q q1
      rw [h2] at this
      cases this
    | false =>
      have e := iTup_tri _ _ q1 h1
      rw [e, h2] at q
      cases q
section
variable {prog : Program} {w : World} {A : Around} {E : Value → Shared → Prop} {s : Shared}
theorem kat_ints : ∀ {xs ys : List Value} {ns ms : List Int} (i : Nat), IntsAre xs ns → IntsAre ys ms → PySem.W.KatLex prog w A true (decide (xs.length < ys.length)) (fun r s' => s' = s ∧ r = iTup ns ms) (xs.zip ys) i s := by
  intro xs
  induction xs with
  | nil =>
    intro ys ns ms i h g
    cases h
    cases ys with
    | nil =>
      cases g
      exact PySem.W.kat_nil ⟨rfl, rfl⟩
    | cons y ys =>
      cases g
      exact PySem.W.kat_nil ⟨rfl, by simp [iTup]⟩
  | cons x xs ih =>
    intro ys ns ms i h g
    cases ys with
    | nil =>
      cases h
      cases g
      exact PySem.W.kat_nil ⟨rfl, by simp [iTup]⟩
    | cons y ys =>
      cases h with
      | @cons n t _ ns h =>
      cases g with
      | @cons m u _ ms g =>
      have e0 : decide ((Value.int n t :: xs).length < (Value.int m u :: ys).length) = decide (xs.length < ys.length) := by simp
      rw [e0, List.zip_cons_cons]
      refine PySem.W.kat_cons (SeqAt.EqAt.int_int n t m u prog w _ _ (PySem.W.kat_go (fun e1 => ?_) fun e1 => ?_))
      · have e : n = m := by simpa using e1
        refine PySem.W.kat_yes ?_
        have := ih (i + 1) h g
        simp only [iTup, if_pos e]
        exact this
      · have e : ¬ n = m := by simpa using e1
        refine PySem.W.kat_no (TS.oneLt_ints _ ⟨rfl, ?_⟩)
        simp only [iTup, if_neg e]
/-- .. of tuples of ints -/
theorem tup_cmp {vs : List Value} {k : Value → List Int} (hp : ∀ v ∈ vs, TS.TupInts s.heap v (k v)) : Cmp prog w A s (tuples' true) (fun p => p.1 ∈ vs) (lt2 fun v u => iTup (k v) (k u)) := by
  intro p q hm hm'
  obtain ⟨a, xs, e, ⟨o, ho, hc, n, hd⟩, i⟩ := hp _ hm
  obtain ⟨b, ys, e', ⟨o', ho', hc', n', hd'⟩, i'⟩ := hp _ hm'
  show wpAny (model prog w) A (keyLt' (tuples' true) p.1 q.1) (fun r s' => s' = s ∧ r = iTup (k p.1) (k q.1)) (fun _ _ => False) s
  rw [show keyLt' (tuples' true) p.1 q.1 = keyLt' (tuples' true) (.ref a) (.ref b) by rw [e, e']]
  refine PySem.W.kat_lt ho hd ho' hd' ?_
  have := kat_ints (prog := prog) (w := w) (A := A) (s := s) 0 i i'
  simpa using this
theorem firsts_ints {h : Heap} {k : Value → List Int} : ∀ {vs : List Value}, (∀ v ∈ vs, TS.TupInts h v (k v) ∧ k v ≠ []) → ∃ fs, PySem.W.KatTups h vs fs ∧ fs.length = vs.length ∧ ∀ f ∈ fs, ∃ x t, f = Value.int x t
  | [], _ => ⟨[], .nil, rfl, fun f hf => nomatch hf⟩
  | v :: vs, hv => by
    obtain ⟨fs, h1, h2, h3⟩ := firsts_ints (vs := vs) fun u hu => hv u (List.mem_cons_of_mem _ hu)
    obtain ⟨⟨a, xs, e, ⟨o, ho, hc, n, hd⟩, i⟩, hne⟩ := hv v List.mem_cons_self
    subst e
    generalize k (.ref a) = ns at i hne
    cases hx : xs.toList with
    | nil =>
      rw [hx] at i
      cases i
      exact absurd rfl hne
    | cons y r =>
      rw [hx] at i
      cases i with
      | @cons m t _ ms i =>
      refine ⟨.int m t :: fs, .cons ho hc hd (by rw [← Array.getElem?_toList, hx]; rfl) h1, by simp [h2], fun f hf => ?_⟩
      rcases List.mem_cons.mp hf with rfl | hf
      · exact ⟨m, t, rfl⟩
      · exact h3 f hf
theorem tups_sortable {a : Addr} {vs : List Value} {k : Value → List Int} (h0 : 0 < vs.length) (hp : ∀ v ∈ vs, TS.TupInts s.heap v (k v) ∧ k v ≠ []) (ha : ∀ o, s.heap.get? a = some o → o.cls ≠ .type "tuple") : SortableO prog w A s a vs fun v u => iTup (k v) (k u) := by
  intro h' keep
  have hp' : ∀ v ∈ vs, TS.TupInts h' v (k v) ∧ k v ≠ [] := fun v hm => ⟨(hp v hm).1.keeps fun b o e c => keep b o (fun z => by subst z; exact ha o e c) e, (hp v hm).2⟩
  obtain ⟨fs, h1, h2, h3⟩ := firsts_ints hp'
  refine ⟨tuples' true, fun Q E hq => ?_, tup_cmp fun v hm => (hp' v hm).1⟩
  refine PySem.W.kat_kind (T := .type "int") h1 (by omega) (fun f hm => ?_) (by rfl) ?_
  · obtain ⟨x, t, rfl⟩ := h3 f hm
    exact PySem.W.Looks.now
  · have e : (Value.type "int" != Value.type "tuple") = true := by first | decide +kernel | rfl | decide
    rw [e]
    exact hq
/-- sorted(u), u giving the items vs -/
theorem sorted_by {u : Value} {vs : List Value} {ltv : Value → Value → Bool} {Q : Value → Shared → Prop} (O : Swo ltv) (hz : vs.length ≤ sizeLine)
    (hc : ∀ R : List Value → Shared → Prop, (∀ h' tk, (∀ b o, s.heap.get? b = some o → h'.get? b = some o) → R vs { s with heap := h', toks := tk }) → wpAny (model prog w) A.in1 (collect u) R E s)
    (hS : 2 ≤ vs.length → ∀ (h₁ : Heap) (a : Addr) (tk : Nat), h₁.get? a = some (seqObj "list" vs.toArray 0) → (∀ b o, s.heap.get? b = some o → h₁.get? b = some o) → SortableO prog w A.in1.in1 { s with heap := h₁, toks := tk } a vs ltv)
    (h : ∀ (h1 h' : Heap) (tk : Nat) (out : List Value), Srtd ltv out → Stb ltv out vs → (∀ b o, s.heap.get? b = some o → h1.get? b = some o) → (∀ b o, h1.get? b = some o → h'.get? b = some o) → (∃ n, h'.get? h1.objs.size = some (seqObj "list" out.toArray n)) → Q (.ref h1.objs.size) { s with heap := h', toks := tk }) :
    wpAny (model prog w) A (call (.builtin "sorted") [u]) Q E s := by
  refine Calls.call_function_entry kind_sorted plain_sorted entry_sorted (args_sorted1 _) ?_
  unfold Builtin.«sorted»
  refine wpAny_bind (m := checkCount "sorted" 1 1 _) (wpAny_pure (wpAny_bind (hc _ fun h1 tk hk => wpAny_bind (wpAny_newList ?_ hz))))
  have hoL : (h1.push (seqObj "list" vs.toArray 0)).get? h1.objs.size = some (seqObj "list" vs.toArray 0) := Heap.get?_push_size _ rfl
  show wpAny _ _ _ _ _ { s with heap := h1.push (seqObj "list" vs.toArray 0), toks := tk }
  have keep : ∀ b o, s.heap.get? b = some o → (h1.push (seqObj "list" vs.toArray 0)).get? b = some o := fun b o e => Heap.get?_push_of_some _ (hk b o e)
  refine wpAny_bind (wpAny_holding (wpAny_call_entry slot_list_sort ⟨_, hoL, rfl⟩ entry_list_sort
    (list_sort_ord (s := { s with heap := h1.push (seqObj "list" vs.toArray 0), toks := tk }) O hoL hz (fun h2 => hS h2 _ _ tk hoL keep) fun out a1 a2 => ⟨_, rfl, ?_⟩) (args_list_sort _)))
  obtain ⟨n, hn⟩ := sortedHeap_at (vs := vs) (out := out.toArray) hoL
  refine wpAny_pure ⟨_, rfl, h h1 _ tk out a1 a2 hk (fun b o e => ?_) ⟨n, hn⟩⟩
  have hb := Heap.lt_size e
  show (sortedHeap (h1.push (seqObj "list" vs.toArray 0)) h1.objs.size vs out.toArray).get? b = some o
  rw [sortedHeap_old (Nat.ne_of_lt hb) (by rw [size_push']; exact Nat.lt_succ_of_lt hb)]
  exact Heap.get?_push_of_some _ e
end
/-! ### what sorting gives -/
theorem insT_perm (x : List Int) : ∀ l : List (List Int), (insT x l).Perm (x :: l)
  | [] => .refl _
  | y :: ys => by
    rw [insT]
    split
    · exact ((insT_perm x ys).cons y).trans (List.Perm.swap x y ys)
    · exact .refl _
theorem srtT_perm : ∀ l : List (List Int), (srtT l).Perm l
  | [] => .refl _
  | x :: xs => (insT_perm x _).trans ((srtT_perm xs).cons x)
abbrev UpT (l : List (List Int)) : Prop := l.Pairwise fun x y => iTup y x = false
theorem iTup_le_trans {a b c : List Int} (h : iTup b a = false) (g : iTup c b = false) : iTup c a = false := (swo_iTup (fun x : List Int => x)).tr a b c h g
theorem insT_up {x : List Int} : ∀ {l : List (List Int)}, UpT l → UpT (insT x l)
  | [], _ => List.pairwise_singleton _ _
  | y :: ys, h => by
    rw [insT]
    have hy := List.pairwise_cons.mp h
    split
    · rename_i c
      refine List.pairwise_cons.mpr ⟨fun z hz => ?_, insT_up hy.2⟩
      rcases List.mem_cons.mp ((insT_perm x ys).mem_iff.mp hz) with rfl | hz
      · exact iTup_asym _ _ c
      · exact hy.1 z hz
    · rename_i c
      have c' : iTup y x = false := by simpa using c
      refine List.pairwise_cons.mpr ⟨fun z hz => ?_, h⟩
      rcases List.mem_cons.mp hz with rfl | hz
      · exact c'
      · exact iTup_le_trans c' (hy.1 z hz)
theorem srtT_up : ∀ l : List (List Int), UpT (srtT l)
  | [] => .nil
  | x :: xs => insT_up (srtT_up xs)
theorem srtT_same {a b : List (List Int)} (p : a.Perm b) (h : UpT a) : a = srtT b :=
  (p.trans (srtT_perm b).symm).eq_of_pairwise (fun x y _ _ q1 q2 => iTup_tri _ _ q2 q1) h (srtT_up b)
section
variable {X : Cx} {pins : List (Addr × Obj)} {σ : L2.St} {H : Hp} {s : Shared}
abbrev TIn (H : Hp) (b : Addr) (ns : List Int) : Prop := H b = some (.tup (ns.map V.int))
theorem ti_mem {bs : List Addr} {nss : List (List Int)} (P : Paired (TIn H) bs nss) : ∀ b ∈ bs, ∃ ns ∈ nss, TIn H b ns := by
  induction P with
  | nil => exact fun b hb => nomatch hb
  | cons h t ih =>
    intro c hc
    rcases List.mem_cons.mp hc with rfl | hc
    · exact ⟨_, List.mem_cons_self, h⟩
    · obtain ⟨ns, h1, h2⟩ := ih c hc
      exact ⟨ns, List.mem_cons_of_mem _ h1, h2⟩
theorem ti_raw (I : Inv X pins σ H s) {b : Addr} {ns : List Int} (h : TIn H b ns) : TS.TupInts s.heap (.ref b) ns := tupI_raw I (SqT.of h)
theorem ti_map (I : Inv X pins σ H s) {bs : List Addr} {nss : List (List Int)} (P : Paired (TIn H) bs nss) : (bs.map Value.ref).map (TS.intsOf s.heap) = nss := by
  induction P with
  | nil => rfl
  | cons h t ih =>
    rw [List.map_cons, List.map_cons, ih, (ti_raw I h).ints]
theorem sort_core {u : Value} {bs : List Addr} {nss : List (List Int)} {Q : VK} (I : Inv X pins σ H s) (P : Paired (TIn H) bs nss) (hne : ∀ ns ∈ nss, ns ≠ []) (hz : bs.length ≤ sizeLine)
    (hc : ∀ R : List Value → Shared → Prop, (∀ h' tk, (∀ b o, s.heap.get? b = some o → h'.get? b = some o) → R (bs.map Value.ref) { s with heap := h', toks := tk }) → wpAny (model X.prog X.w) X.A.in1 (collect u) R X.xe s)
    (q : ∀ p bs', H p = none → Paired (TIn H) bs' (srtT nss) → Q (.ref p) (upd H p (.lst (bs'.map V.ref)))) : wpAny (model X.prog X.w) X.A (call (.builtin "sorted") [u]) (EP X pins σ Q) X.xe s := by
  have fact : ∀ v ∈ bs.map Value.ref, ∃ b, v = .ref b ∧ TIn H b (TS.intsOf s.heap v) ∧ TS.TupInts s.heap v (TS.intsOf s.heap v) ∧ TS.intsOf s.heap v ≠ [] := fun v hv => by
    obtain ⟨b, hb, rfl⟩ := List.mem_map.mp hv
    obtain ⟨ns, h1, h2⟩ := ti_mem P b hb
    have h3 := ti_raw I h2
    rw [h3.ints]
    exact ⟨b, rfl, h2, h3, hne ns h1⟩
  refine sorted_by (swo_iTup (TS.intsOf s.heap)) (by rw [List.length_map]; exact hz) hc (fun h2 h₁ a tk ha keep => ?_) fun h1 h' tk out a1 a2 k1 k2 hn => ?_
  · refine tups_sortable (s := { s with heap := h₁, toks := tk }) (by omega) (fun v hv => ?_) fun o e => ?_
    · obtain ⟨b, _, _, h3, h4⟩ := fact v hv
      exact ⟨h3.keeps fun b o e _ => keep b o e, h4⟩
    · have e' : some o = some (seqObj "list" (bs.map Value.ref).toArray 0) := e.symm.trans ha
      cases e'
      intro c
      exact absurd (Value.type.inj c) (by decide)
  · obtain ⟨n, hn⟩ := hn
    have I1 : Inv X pins σ H { s with heap := h1, toks := tk } := I.kept k1
    have pm := a2.perm
    have each : ∀ v ∈ out, ∃ b, v = .ref b ∧ TIn H b (TS.intsOf s.heap v) := fun v hv => by
      obtain ⟨b, e, h2, _⟩ := fact v (pm.mem_iff.mp hv)
      exact ⟨b, e, h2⟩
    have key : ∀ l : List Value, (∀ v ∈ l, ∃ b, v = .ref b ∧ TIn H b (TS.intsOf s.heap v)) → ∃ bs', l = bs'.map Value.ref ∧ Paired (TIn H) bs' (l.map (TS.intsOf s.heap)) := by
      intro l
      induction l with
      | nil => exact fun _ => ⟨[], rfl, .nil⟩
      | cons v l ih =>
        intro hl
        obtain ⟨b, e, h2⟩ := hl v List.mem_cons_self
        obtain ⟨bs', e2, h3⟩ := ih fun x hx => hl x (List.mem_cons_of_mem _ hx)
        exact ⟨b :: bs', by rw [e, e2]; rfl, .cons h2 h3⟩
    obtain ⟨bs', e1, P'⟩ := key out each
    have hs : out.map (TS.intsOf s.heap) = srtT nss := by
      refine srtT_same ?_ (List.pairwise_map.mpr a1)
      have := pm.map (TS.intsOf s.heap)
      rwa [ti_map I P] at this
    rw [hs] at P'
    have new := I1.hok.fresh (Nat.le_refl h1.objs.size)
    have hlen : (bs'.map V.ref).length ≤ sizeLine := by
      have h3 := pm.length_eq
      rw [e1] at h3
      simp only [List.length_map] at h3 ⊢
      omega
    refine ⟨.ref h1.objs.size, _, I1.laid (t' := tk) (o := .lst (bs'.map V.ref)) k2 (Nat.le_refl _) ⟨hlen, out, n, ?_, hn⟩, rfl, q _ bs' new P'⟩
    rw [e1]
    exact vals_refs bs'
/-- sorted(l) of tuples of ints -/
theorem call_sortT : CallR X (.builtin "sorted") (fun xs H Q => ∃ (a : Addr) (bs : List Addr) (nss : List (List Int)), xs = [.ref a] ∧ SqL X.K H a (bs.map V.ref) ∧ Paired (TIn H) bs nss ∧ (∀ ns ∈ nss, ns ≠ []) ∧
    ∀ p bs', H p = none → Paired (TIn H) bs' (srtT nss) → Q (.ref p) (upd H p (.lst (bs'.map V.ref)))) := by
  intro pins s σ H xs us Q I r ⟨a, bs, nss, ex, hs, P, hne, q⟩
  subst ex
  obtain ⟨u, eu, rx⟩ := vals1 r
  subst eu
  cases rx
  obtain ⟨its, rv, pl, hz⟩ := I.list hs
  have ei := refs_at rv
  subst ei
  rw [List.length_map] at hz
  refine sort_core I P hne hz (fun R hR => collect_list (A := X.A.in1) pl.isList (hR _ s.toks fun b o e => ?_) (by rw [List.length_map]; exact hz)) q
  have hb := Heap.lt_size e
  rw [Heap.get?_update_ne _ _ _ _ (Nat.ne_of_lt hb)]
  exact Heap.get?_push_of_some _ e
/-- sorted(d), its keys tuples of ints -/
theorem call_sortDT (hcalm : X.calm = true) : CallR X (.builtin "sorted") (fun xs H Q => ∃ (a : Addr) (kvs : List (List Key × V)) (nss : List (List Int)), xs = [.ref a] ∧ Rd H a (.dT kvs) ∧ kvs.map (·.1) = nss.map (fun ns => ns.map Sum.inl) ∧ (∀ ns ∈ nss, ns ≠ []) ∧
    ∀ p bs', H p = none → Paired (TIn H) bs' (srtT nss) → Q (.ref p) (upd H p (.lst (bs'.map V.ref)))) := by
  intro pins s σ H xs us Q I r ⟨a, kvs, nss, ex, hd, hks, hne, q⟩
  subst ex
  obtain ⟨u, eu, rx⟩ := vals1 r
  subst eu
  cases rx
  obtain ⟨z, lo, ks, pr, o, es, ep, ho, hx, hdt, he, hn⟩ := (show ObjOk X.prog X.w H s.heap a (.dT kvs) from hd.ok I.hok)
  have P : Paired (TIn H) (ks.map fun x => x.2.1) nss := by
    have go : ∀ {kvs : List (List Key × V)} {ks : List (List Key × Addr × Value)} {nss : List (List Int)}, KT H kvs ks → kvs.map (·.1) = nss.map (fun ns => ns.map Sum.inl) → Paired (TIn H) (ks.map fun x => x.2.1) nss := by
      intro kvs ks nss p
      unfold KT at p
      induction p generalizing nss with
      | nil =>
        intro e
        cases nss with
        | nil => exact .nil
        | cons _ _ => cases e
      | @cons p q ps qs h t ih =>
        intro e
        cases nss with
        | nil => cases e
        | cons n nss =>
          simp only [List.map_cons, List.cons.injEq] at e
          refine .cons ?_ (ih e.2)
          obtain ⟨_, h2, _⟩ := h
          show H q.2.1 = some (.tup (n.map V.int))
          rw [h2, e.1, List.map_map]
          rfl
    exact go pr hks
  have hlen : ks.length = kvs.length := (Paired.length pr).symm
  have hes : es.size = ks.length := by
    have := congrArg List.length he
    simpa using this
  refine sort_core I P hne (by rw [List.length_map, hlen]; exact z) (fun R hR => PySem.W.kdu_collect (A := X.A.in1) (kdl_raw lo hx hdt) (I.ok.hd hcalm) ho (by rw [hes, hlen]; exact z) fun h' tk acc hk hacc => ?_) q
  have e : acc.toList = (ks.map fun x => x.2.1).map Value.ref := by
    refine List.ext_getElem? fun j => ?_
    rw [Array.getElem?_toList]
    by_cases hj : j < es.size
    · have hj2 : j < acc.size := by rw [hacc.1]; exact hj
      obtain ⟨en, e1, e2⟩ := hacc.2 j acc[j] (Array.getElem?_eq_getElem hj2)
      rw [Array.getElem?_eq_getElem hj2, e2]
      have e3 : es.toList[j]? = some en := by rw [Array.getElem?_toList]; exact e1
      rw [he, List.getElem?_map] at e3
      obtain ⟨x, e4, e5⟩ := Option.map_eq_some_iff.mp e3
      rw [List.getElem?_map, List.getElem?_map, e4, ← e5]
      rfl
    · rw [Array.getElem?_eq_none (by rw [hacc.1]; omega), List.getElem?_eq_none]
      simp
      omega
  rw [e]
  exact hR h' tk hk
end
end PI
/-! Operators, comparisons, truth: what the plain values do, over the abstract heap. -/
namespace PI
open PySem L2

mutual
theorem toPy_lay : ∀ {d : D}, d.plain = true → d.toPy.canLay0 = true
  | .non, _ => by simp [D.toPy, PyData.canLay0]
  | .bl _, _ => by simp [D.toPy, PyData.canLay0]
  | .int _, _ => by simp [D.toPy, PyData.canLay0]
  | .str x, h => by simpa [D.toPy, PyData.canLay0, PyData.strOk, D.plain] using h
  | .tup xs, h => by
    have h' : D.plains xs = true := by simpa [D.plain] using h
    simpa [D.toPy, PyData.canLay0] using toPys_lay h'
  | .lst xs, h => by
    have h' : D.plains xs = true := by simpa [D.plain] using h
    simpa [D.toPy, PyData.canLay0] using toPys_lay h'
  | .dic _ _ _, h => by simp [D.plain] at h
  | .gl _, h => by simp [D.plain] at h
  | .scr _, h => by simp [D.plain] at h
theorem toPys_lay : ∀ {ds : List D}, D.plains ds = true → PyData.canLayAll0 (D.toPys ds) = true
  | [], _ => by simp [D.toPys, PyData.canLayAll0]
  | x :: xs, h => by
    rw [D.plains, Bool.and_eq_true] at h
    simp [D.toPys, PyData.canLayAll0, toPy_lay h.1, toPys_lay h.2]
end
mutual
theorem toPy_dep : ∀ {d : D}, d.plain = true → d.toPy.depth = d.dep
  | .non, _ => by simp [D.toPy, PyData.depth, D.dep]
  | .bl _, _ => by simp [D.toPy, PyData.depth, D.dep]
  | .int _, _ => by simp [D.toPy, PyData.depth, D.dep]
  | .str x, _ => by simp [D.toPy, PyData.depth, D.dep]
  | .tup xs, h => by
    have h' : D.plains xs = true := by simpa [D.plain] using h
    simp [D.toPy, PyData.depth, D.dep, toPys_dep h']
  | .lst xs, h => by
    have h' : D.plains xs = true := by simpa [D.plain] using h
    simp [D.toPy, PyData.depth, D.dep, toPys_dep h']
  | .dic _ _ _, h => by simp [D.plain] at h
  | .gl _, h => by simp [D.plain] at h
  | .scr _, h => by simp [D.plain] at h
theorem toPys_dep : ∀ {ds : List D}, D.plains ds = true → PyData.depthAll (D.toPys ds) = D.deps ds
  | [], _ => by simp [D.toPys, PyData.depthAll, D.deps]
  | x :: xs, h => by
    rw [D.plains, Bool.and_eq_true] at h
    simp [D.toPys, PyData.depthAll, D.deps, toPy_dep h.1, toPys_dep h.2]
end
mutual
theorem toPy_eqv : ∀ {d e : D}, d.plain = true → e.plain = true → PyData.eqv d.toPy e.toPy = d.eqv e
  | .non, e, _, h => by cases e <;> simp_all [D.toPy, PyData.eqv, D.eqv, D.plain]
  | .bl _, e, _, h => by cases e <;> simp_all [D.toPy, PyData.eqv, D.eqv, D.plain]
  | .int _, e, _, h => by cases e <;> simp_all [D.toPy, PyData.eqv, D.eqv, D.plain]
  | .str _, e, _, h => by cases e <;> simp_all [D.toPy, PyData.eqv, D.eqv, D.plain]
  | .tup xs, e, h, g => by
    have h' : D.plains xs = true := by simpa [D.plain] using h
    cases e with
    | tup ys =>
      have g' : D.plains ys = true := by simpa [D.plain] using g
      simp [D.toPy, PyData.eqv, D.eqv, toPys_eqv h' g']
    | _ => simp_all [D.toPy, PyData.eqv, D.eqv, D.plain]
  | .lst xs, e, h, g => by
    have h' : D.plains xs = true := by simpa [D.plain] using h
    cases e with
    | lst ys =>
      have g' : D.plains ys = true := by simpa [D.plain] using g
      simp [D.toPy, PyData.eqv, D.eqv, toPys_eqv h' g']
    | _ => simp_all [D.toPy, PyData.eqv, D.eqv, D.plain]
  | .dic _ _ _, _, h, _ => by simp [D.plain] at h
  | .gl _, _, h, _ => by simp [D.plain] at h
  | .scr _, _, h, _ => by simp [D.plain] at h
theorem toPys_eqv : ∀ {ds es : List D}, D.plains ds = true → D.plains es = true → PyData.eqvAll (D.toPys ds) (D.toPys es) = D.eqvs ds es
  | [], [], _, _ => by simp [D.toPys, PyData.eqvAll, D.eqvs]
  | [], y :: ys, _, _ => by simp [D.toPys, PyData.eqvAll, D.eqvs]
  | x :: xs, [], _, _ => by simp [D.toPys, PyData.eqvAll, D.eqvs]
  | x :: xs, y :: ys, h, g => by
    rw [D.plains, Bool.and_eq_true] at h g
    simp [D.toPys, PyData.eqvAll, D.eqvs, toPy_eqv h.1 g.1, toPys_eqv h.2 g.2]
end
theorem fit_shaped {d : D} (h : fit d = true) : d.plain = true ∧ SeqAt.shaped d.toPy = true := by
  unfold fit at h
  rw [Bool.and_eq_true] at h
  refine ⟨h.1, ?_⟩
  show (d.toPy.canLay0 && decide (d.toPy.depth ≤ 64)) = true
  rw [Bool.and_eq_true]
  have := of_decide_eq_true h.2
  exact ⟨toPy_lay h.1, decide_eq_true (by rw [toPy_dep h.1]; omega)⟩
theorem toPys_any {x : D} (hx : x.plain = true) : ∀ {l : List D}, D.plains l = true → (D.toPys l).any (fun z => PyData.eqv z x.toPy) = l.any fun y => y.eqv x
  | [], _ => by simp [D.toPys]
  | y :: ys, h => by
    rw [D.plains, Bool.and_eq_true] at h
    simp [D.toPys, toPy_eqv h.1 hx, toPys_any hx h.2]

section
variable {X : Cx}
/-- the universal reading of an operator: plain values in, a plain value out -/
def rUni (X : Cx) (g : D → D → Option R) : R2 := fun x y H Q => ∃ (B : Fx) (ρ : Rho) (σ : St) (F : Hp) (d e : D) (z : R), Rel X.K B ρ σ F H ∧ Rq X.K F H d x ∧ Rq X.K F H e y ∧ g d e = some z ∧
  ∀ v F' H', Rel X.K B ρ σ F' H' → Same F F' → Rs X.K B ρ σ F' H' z v → Q v H'
def rUniB (X : Cx) (g : D → D → Option Bool) : R2 := fun x y H Q => ∃ (B : Fx) (ρ : Rho) (σ : St) (F : Hp) (d e : D) (z : Bool), Rel X.K B ρ σ F H ∧ Rq X.K F H d x ∧ Rq X.K F H e y ∧ g d e = some z ∧ Q (.bl z) H

theorem iop_ok (o : Operator) : OpR X (binaryOp o) (fun x y H Q => ∃ i j k, x = .int i ∧ y = .int j ∧ iop o i j = some k ∧ Q (.int k) H) := by
  intro pins s σ H x y v u Q I rx ry h
  obtain ⟨i, j, k, rfl, rfl, g, q⟩ := h
  cases o with
  | Add =>
    cases g
    exact op_add pins s σ H _ _ v u Q I rx ry ⟨i, j, rfl, rfl, q⟩
  | Sub =>
    cases g
    exact op_sub pins s σ H _ _ v u Q I rx ry ⟨i, j, rfl, rfl, q⟩
  | Mult =>
    simp only [iop] at g
    split at g
    · rename_i c
      cases g
      rcases of_decide_eq_true c with c | c | c
      · exact op_mul pins s σ H _ _ v u Q I rx ry ⟨i, j, rfl, rfl, .inl c, q⟩
      · exact op_mul pins s σ H _ _ v u Q I rx ry ⟨i, j, rfl, rfl, .inr c, q⟩
      · exact op_mulW pins s σ H _ _ v u Q I rx ry ⟨i, j, rfl, rfl, c, q⟩
    · cases g
  | FloorDiv =>
    simp only [iop] at g
    split at g
    · rename_i c
      cases g
      unfold divOk at c
      have c' := of_decide_eq_true c
      exact op_fdivW pins s σ H _ _ v u Q I rx ry ⟨i, j, rfl, rfl, c', q⟩
    · cases g
  | Mod =>
    simp only [iop] at g
    split at g
    · rename_i c
      cases g
      exact op_mod pins s σ H _ _ v u Q I rx ry ⟨i, j, rfl, rfl, c, q⟩
    · cases g
  | Pow =>
    simp only [iop] at g
    split at g
    · rename_i c
      cases g
      unfold shOk at c
      have c' := of_decide_eq_true c
      exact op_pow pins s σ H _ _ v u Q I rx ry ⟨i, j, rfl, rfl, c', q⟩
    · cases g
  | LShift =>
    simp only [iop] at g
    split at g
    · rename_i c
      cases g
      unfold shOk at c
      have c' := of_decide_eq_true c
      exact op_shl pins s σ H _ _ v u Q I rx ry ⟨i, j, rfl, rfl, c', q⟩
    · cases g
  | RShift =>
    simp only [iop] at g
    split at g
    · rename_i c
      cases g
      exact op_shr pins s σ H _ _ v u Q I rx ry ⟨i, j, rfl, rfl, c, q⟩
    · cases g
  | BitAnd =>
    cases g
    exact op_and pins s σ H _ _ v u Q I rx ry ⟨i, j, rfl, rfl, q⟩
  | BitOr =>
    cases g
    exact op_or pins s σ H _ _ v u Q I rx ry ⟨i, j, rfl, rfl, q⟩
  | BitXor =>
    cases g
    exact op_xor pins s σ H _ _ v u Q I rx ry ⟨i, j, rfl, rfl, q⟩
  | MatMult => cases g
  | Div => cases g

theorem map_some {α β : Type} {f : α → β} {x : Option α} {z : β} (h : x.map f = some z) : ∃ a, x = some a ∧ z = f a := by
  cases x with
  | none => cases h
  | some a => exact ⟨a, rfl, (Option.some.inj h).symm⟩
theorem op_uni (o : Operator) : OpR X (binaryOp o) (rUni X (opD o)) := by
  intro pins s σ H x y v u Q I rx ry h
  obtain ⟨B, ρ, σ', F, d, e, z, rel, hx, hy, g, k⟩ := h
  cases d with
  | int i =>
    cases e with
    | int j =>
      have hx' : x = V.int i := hx
      have hy' : y = V.int j := hy
      subst hx' hy'
      obtain ⟨m, g1, rfl⟩ := map_some g
      exact iop_ok o pins s σ H _ _ v u Q I rx ry ⟨i, j, m, rfl, rfl, g1, k _ F H rel (Same.refl F) rfl⟩
    | _ => cases g
  | str a =>
    cases e with
    | str b =>
      have hx' : x = V.str a := hx
      have hy' : y = V.str b := hy
      subst hx' hy'
      cases o with
      | Add =>
        simp only [opD] at g
        split at g
        · rename_i c
          cases g
          exact op_add_str pins s σ H _ _ v u Q I rx ry ⟨a, b, rfl, rfl, c, k _ F H rel (Same.refl F) rfl⟩
        · cases g
      | _ => cases g
    | _ => cases g
  | lst a =>
    cases e with
    | lst b =>
      obtain ⟨p, vs, rfl, hp, hv⟩ := hx
      obtain ⟨q, us, rfl, hq, hu⟩ := hy
      cases o with
      | Add =>
        simp only [opD] at g
        split at g
        · rename_i c
          cases g
          refine op_cat pins s σ H _ _ v u Q I rx ry ⟨p, q, vs, us, rfl, rfl, hp, hq, ?_, fun r hr => ?_⟩
          · rw [← hv.length, ← hu.length]
            exact c
          · exact k _ F _ (rel.lay hr) (Same.refl F) (Rs.ofL ⟨r, _, _, rfl, rfl, upd_same, rel.newF hr, rel.new0 hr, RpL.append hv hu, rel.notOwn hr⟩)
        · cases g
      | _ => cases g
    | int n =>
      obtain ⟨p, vs, rfl, hp, hv⟩ := hx
      have hy' : y = V.int n := hy
      subst hy'
      cases o with
      | Mult =>
        obtain ⟨m, g1, rfl⟩ := map_some g
        unfold repL at g1
        split at g1
        · rename_i c
          cases g1
          refine op_rep pins s σ H _ _ v u Q I rx ry ⟨p, n, vs, rfl, rfl, hp, c.1, c.2.1, ?_, fun r hr => ?_⟩
          · rw [← hv.length]
            exact c.2.2
          · exact k _ F _ (rel.lay hr) (Same.refl F) (Rs.ofL ⟨r, _, _, rfl, rfl, upd_same, rel.newF hr, rel.new0 hr, RpL.rep hv _, rel.notOwn hr⟩)
        · cases g1
      | _ => cases g
    | _ => cases g
  | tup a =>
    cases e with
    | tup b =>
      obtain ⟨p, vs, rfl, hp, hv⟩ := hx
      obtain ⟨q, us, rfl, hq, hu⟩ := hy
      cases o with
      | Add =>
        simp only [opD] at g
        split at g
        · rename_i c
          cases g
          refine op_catA pins s σ H _ _ v u Q I rx ry ⟨p, q, vs, us, rfl, rfl, Same.tupT rel.sub hp, Same.tupT rel.sub hq, ?_, fun e0 => ?_, fun _ e1 => ?_, fun _ _ r hr => ?_⟩
          · rw [← hv.length, ← hu.length]
            exact c
          · have ea : a = [] := List.eq_nil_of_length_eq_zero (by rw [hv.length, e0]; rfl)
            subst ea
            exact k _ F H rel (Same.refl F) ⟨q, us, rfl, hq, hu⟩
          · have eb : b = [] := List.eq_nil_of_length_eq_zero (by rw [hu.length, e1]; rfl)
            subst eb
            rw [List.append_nil] at k
            exact k _ F H rel (Same.refl F) ⟨p, vs, rfl, hp, hv⟩
          · exact k _ _ _ (rel.put hr) (same_upd (rel.newF hr)) ⟨r, _, rfl, upd_same, RpL.mono (same_upd (rel.newF hr)) (RpL.append hv hu)⟩
        · cases g
      | _ => cases g
    | int n =>
      obtain ⟨p, vs, rfl, hp, hv⟩ := hx
      have hy' : y = V.int n := hy
      subst hy'
      cases o with
      | Mult =>
        simp only [opD] at g
        split at g
        · rename_i c
          cases g
          by_cases e1 : n = 1
          · subst e1
            refine op_once pins s σ H _ _ v u Q I rx ry ⟨p, vs, rfl, rfl, Same.tupT rel.sub hp, ?_⟩
            have e2 : (List.replicate (1 : Int).toNat a).flatten = a := by simp
            rw [e2] at k
            exact k _ F H rel (Same.refl F) ⟨p, vs, rfl, hp, hv⟩
          · have hne : vs ≠ [] := fun z => c.1 (List.eq_nil_of_length_eq_zero (by rw [hv.length, z]; rfl))
            refine op_repT pins s σ H _ _ v u Q I rx ry ⟨p, n, vs, rfl, rfl, Same.tupT rel.sub hp, hne, by omega, c.2.2.1, by rw [← hv.length]; exact c.2.2.2, fun r hr => ?_⟩
            exact k _ _ _ (rel.put hr) (same_upd (rel.newF hr)) ⟨r, _, rfl, upd_same, RpL.mono (same_upd (rel.newF hr)) (RpL.rep hv _)⟩
        · cases g
      | _ => cases g
    | _ => cases g
  | non => cases e <;> cases g
  | bl _ => cases e <;> cases g
  | dic _ => cases e <;> cases g
  | gl _ => cases e <;> cases g
  | scr _ => cases e <;> cases g

theorem eqD_ok (hu : X.A.units + 64 < cLine) {F H : Hp} {B : Fx} {ρ : Rho} {σ : St} {d e : D} {x y : V} {z : Bool} (rel : Rel X.K B ρ σ F H) (hx : Rq X.K F H d x) (hy : Rq X.K F H e y) (g : eqD d e = some z) :
    ∃ p q, Dp X.K H x p ∧ Dp X.K H y q ∧ SeqAt.shaped p = true ∧ SeqAt.shaped q = true ∧ PyData.eqv p q = z := by
  unfold eqD at g
  split at g
  · rename_i c
    rw [Bool.and_eq_true] at c
    cases g
    obtain ⟨p1, s1⟩ := fit_shaped c.1
    obtain ⟨p2, s2⟩ := fit_shaped c.2
    exact ⟨_, _, Rq.dp rel.sub p1 hx, Rq.dp rel.sub p2 hy, s1, s2, toPy_eqv p1 p2⟩
  · cases g
theorem eqD_rule (hu : X.A.units + 64 < cLine) : OpR X (compareOp .Eq) (rUniB X eqD) := by
  intro pins s σ H x y v u Q I rx ry h
  obtain ⟨B, ρ, σ', F, d, e, z, rel, hx, hy, g, k⟩ := h
  obtain ⟨p, q, h1, h2, h3, h4, h5⟩ := eqD_ok hu rel hx hy g
  exact op_eqD hu pins s σ H x y v u Q I rx ry ⟨p, q, h1, h2, h3, h4, by rw [h5]; exact k⟩
theorem neD_rule (hu : X.A.units + 64 < cLine) : OpR X (compareOp .NotEq) (rUniB X fun d e => (eqD d e).map (!·)) := by
  intro pins s σ H x y v u Q I rx ry h
  obtain ⟨B, ρ, σ', F, d, e, z, rel, hx, hy, g, k⟩ := h
  obtain ⟨z', g', rfl⟩ := map_some g
  obtain ⟨p, q, h1, h2, h3, h4, h5⟩ := eqD_ok hu rel hx hy g'
  exact op_neD hu pins s σ H x y v u Q I rx ry ⟨p, q, h1, h2, h3, h4, by rw [h5]; exact k⟩
theorem cmp_int (o : CmpOp) : OpR X (compareOp o) (fun x y H Q => ∃ i j z, x = .int i ∧ y = .int j ∧ icmp o i j = some z ∧ Q (.bl z) H) := by
  intro pins s σ H x y v u Q I rx ry h
  obtain ⟨i, j, z, rfl, rfl, g, k⟩ := h
  cases o with
  | Eq =>
    cases g
    refine op_eq pins s σ H _ _ v u Q I rx ry ⟨rfl, ?_⟩
    have e : decide (V.int i = V.int j) = decide (i = j) := by
      by_cases c : i = j
      · subst c
        simp
      · simp [c]
    rw [e]
    exact k
  | NotEq =>
    cases g
    refine op_ne pins s σ H _ _ v u Q I rx ry ⟨rfl, ?_⟩
    have e : decide (V.int i = V.int j) = decide (i = j) := by
      by_cases c : i = j
      · subst c
        simp
      · simp [c]
    rw [e]
    exact k
  | Lt =>
    cases g
    exact op_lt pins s σ H _ _ v u Q I rx ry ⟨i, j, rfl, rfl, k⟩
  | LtE =>
    cases g
    exact op_le pins s σ H _ _ v u Q I rx ry ⟨i, j, rfl, rfl, k⟩
  | Gt =>
    cases g
    exact op_gt pins s σ H _ _ v u Q I rx ry ⟨i, j, rfl, rfl, k⟩
  | GtE =>
    cases g
    exact op_ge pins s σ H _ _ v u Q I rx ry ⟨i, j, rfl, rfl, k⟩
  | _ => cases g
theorem inL_ok {F H : Hp} {B : Fx} {ρ : Rho} {σ : St} {d : D} {l : List D} {x : V} {z : Bool} (rel : Rel X.K B ρ σ F H) (hx : Rq X.K F H d x) (g : inL d l = some z) :
    Dp X.K H x d.toPy ∧ SeqAt.shaped d.toPy = true ∧ SeqAt.shaped (.list (D.toPys l)) = true ∧ D.plains l = true ∧ (D.toPys l).any (fun w => PyData.eqv w d.toPy) = z := by
  unfold inL at g
  split at g
  · rename_i c
    rw [Bool.and_eq_true] at c
    cases g
    obtain ⟨p1, s1⟩ := fit_shaped c.1
    obtain ⟨p2, s2⟩ := fit_shaped c.2
    have p2' : D.plains l = true := by simpa [D.plain] using p2
    exact ⟨Rq.dp rel.sub p1 hx, s1, by simpa [D.toPy] using s2, p2', toPys_any p1 p2'⟩
  · cases g

theorem room_of {d : PyData} {ds : List PyData} (sd : SeqAt.shaped d = true) (hu : X.A.units + 65 < cLine) : X.A.units + 1 + min (PyData.depthAll ds) d.depth < cLine := by
  have h : (d.canLay0 && decide (d.depth ≤ 64)) = true := sd
  rw [Bool.and_eq_true] at h
  have h2 := of_decide_eq_true h.2
  omega
theorem inTup_rule (hu : X.A.units + 65 < cLine) : OpR X (compareOp .In) (fun x y H Q => ∃ d ds, Dp X.K H x d ∧ Dp X.K H y (.tuple ds) ∧ SeqAt.shaped d = true ∧ PyData.canLayAll0 ds = true ∧ Q (.bl (ds.any fun z => PyData.eqv z d)) H) := by
  intro pins s σ H x y v u Q I rx ry h
  obtain ⟨d, ds, hd, he, sd, se, q⟩ := h
  obtain ⟨as, r1⟩ := Dp.reads I d x v hd rx
  obtain ⟨bs, r2⟩ := Dp.reads I (.tuple ds) y u he ry
  exact SeqAt.in_tuple_reads r2 r1 se (SeqAt.canLay_of_shaped sd) (room_of sd hu) ⟨.bl _, H, I, rfl, q⟩
theorem notInTup_rule (hu : X.A.units + 65 < cLine) : OpR X (compareOp .NotIn) (fun x y H Q => ∃ d ds, Dp X.K H x d ∧ Dp X.K H y (.tuple ds) ∧ SeqAt.shaped d = true ∧ PyData.canLayAll0 ds = true ∧ Q (.bl (!ds.any fun z => PyData.eqv z d)) H) := by
  intro pins s σ H x y v u Q I rx ry h
  obtain ⟨d, ds, hd, he, sd, se, q⟩ := h
  obtain ⟨as, r1⟩ := Dp.reads I d x v hd rx
  obtain ⟨bs, r2⟩ := Dp.reads I (.tuple ds) y u he ry
  exact SeqAt.notIn_tuple_reads r2 r1 se (SeqAt.canLay_of_shaped sd) (room_of sd hu) ⟨.bl _, H, I, rfl, q⟩
theorem in_uni (hu : X.A.units + 65 < cLine) : OpR X (compareOp .In) (rUniB X inD) := by
  intro pins s σ H x y v u Q I rx ry h
  obtain ⟨B, ρ, σ', F, d, e, z, rel, hx, hy, g, k⟩ := h
  cases e with
  | lst l =>
    obtain ⟨h1, h2, h3, h4, h5⟩ := inL_ok rel hx (show inL d l = some z from g)
    have h6 : Dp X.K H y (.list (D.toPys l)) := by
      have q := Rq.dp (d := .lst l) rel.sub (by simpa [D.plain] using h4) hy
      simpa [D.toPy] using q
    exact op_inD hu pins s σ H x y v u Q I rx ry ⟨_, _, h1, h6, h2, h3, by rw [h5]; exact k⟩
  | tup l =>
    obtain ⟨h1, h2, h3, h4, h5⟩ := inL_ok rel hx (show inL d l = some z from g)
    have h6 : Dp X.K H y (.tuple (D.toPys l)) := by
      have q := Rq.dp (d := .tup l) rel.sub (by simpa [D.plain] using h4) hy
      simpa [D.toPy] using q
    exact inTup_rule hu pins s σ H x y v u Q I rx ry ⟨_, _, h1, h6, h2, toPys_lay h4, by rw [h5]; exact k⟩
  | str b =>
    cases d with
    | str a =>
      cases g
      have hx' : x = V.str a := hx
      have hy' : y = V.str b := hy
      subst hx' hy'
      exact op_in_str pins s σ H _ _ v u Q I rx ry ⟨a, b, rfl, rfl, k⟩
    | _ => cases g
  | dic t ks vs =>
    obtain ⟨a, us, rfl, ⟨o, h1, h2⟩, h3⟩ := hy
    simp only [inD] at g
    split at g
    · rename_i hk
      cases g
      cases ry
      exact d_has (by omega) I (has_of rel.sub h1 h2 hk hx) rx fun s' I' => ⟨.bl _, H, I', rfl, k⟩
    · cases g
  | _ => cases g
theorem notIn_uni (hu : X.A.units + 65 < cLine) : OpR X (compareOp .NotIn) (rUniB X fun d e => (inD d e).map (!·)) := by
  intro pins s σ H x y v u Q I rx ry h
  obtain ⟨B, ρ, σ', F, d, e, z', rel, hx, hy, g', k⟩ := h
  obtain ⟨z, g, rfl⟩ := map_some g'
  cases e with
  | lst l =>
    obtain ⟨h1, h2, h3, h4, h5⟩ := inL_ok rel hx (show inL d l = some z from g)
    have h6 : Dp X.K H y (.list (D.toPys l)) := by
      have q := Rq.dp (d := .lst l) rel.sub (by simpa [D.plain] using h4) hy
      simpa [D.toPy] using q
    exact op_notInD hu pins s σ H x y v u Q I rx ry ⟨_, _, h1, h6, h2, h3, by rw [h5]; exact k⟩
  | tup l =>
    obtain ⟨h1, h2, h3, h4, h5⟩ := inL_ok rel hx (show inL d l = some z from g)
    have h6 : Dp X.K H y (.tuple (D.toPys l)) := by
      have q := Rq.dp (d := .tup l) rel.sub (by simpa [D.plain] using h4) hy
      simpa [D.toPy] using q
    exact notInTup_rule hu pins s σ H x y v u Q I rx ry ⟨_, _, h1, h6, h2, toPys_lay h4, by rw [h5]; exact k⟩
  | str b =>
    cases d with
    | str a =>
      cases g
      have hx' : x = V.str a := hx
      have hy' : y = V.str b := hy
      subst hx' hy'
      exact op_notin_str pins s σ H _ _ v u Q I rx ry ⟨a, b, rfl, rfl, k⟩
    | _ => cases g
  | dic t ks vs =>
    obtain ⟨a, us, rfl, ⟨o, h1, h2⟩, h3⟩ := hy
    simp only [inD] at g
    split at g
    · rename_i hk
      cases g
      cases ry
      exact d_hasNot (by omega) I (has_of rel.sub h1 h2 hk hx) rx fun s' I' => ⟨.bl _, H, I', rfl, k⟩
    · cases g
  | _ => cases g
theorem rp_non {K : PySem.W.Frag} {F H : Hp} {d : D} {x : V} (h : Rq K F H d x) : decide (x = .non) = isNon d := by
  cases d with
  | non =>
    have h' : x = .non := h
    simp [h', isNon]
  | bl b =>
    have h' : x = .bl b := h
    simp [h', isNon]
  | int b =>
    have h' : x = .int b := h
    simp [h', isNon]
  | str b =>
    have h' : x = .str b := h
    simp [h', isNon]
  | lst l =>
    obtain ⟨p, vs, h', _⟩ := h
    simp [h', isNon]
  | tup l =>
    obtain ⟨p, vs, h', _⟩ := h
    simp [h', isNon]
  | scr l =>
    obtain ⟨p, h', _⟩ := h
    simp [h', isNon]
  | dic t ks l =>
    obtain ⟨p, vs, h', _⟩ := h
    simp [h', isNon]
  | gl _ => exact h.elim
theorem is_uni : OpR X (compareOp .Is) (rUniB X (cmpD .Is)) := by
  intro pins s σ H x y v u Q I rx ry h
  obtain ⟨B, ρ, σ', F, d, e, z, rel, hx, hy, g, k⟩ := h
  cases e with
  | non =>
    have hy' : y = V.non := hy
    subst hy'
    have g' : isNon d = z := Option.some.inj g
    refine op_isN pins s σ H x _ v u Q I rx ry ⟨rfl, ?_⟩
    rw [rp_non hx, g']
    exact k
  | bl b =>
    cases b with
    | true =>
      cases d with
      | bl a =>
        cases g
        have hx' : x = V.bl z := hx
        have hy' : y = V.bl true := hy
        subst hx' hy'
        refine op_isBl pins s σ H _ _ v u Q I rx ry ⟨z, true, rfl, rfl, ?_⟩
        cases z <;> exact k
      | _ => cases g
    | false => cases g
  | _ => cases g
theorem isNot_uni : OpR X (compareOp .IsNot) (rUniB X (cmpD .IsNot)) := by
  intro pins s σ H x y v u Q I rx ry h
  obtain ⟨B, ρ, σ', F, d, e, z, rel, hx, hy, g, k⟩ := h
  cases e with
  | non =>
    have hy' : y = V.non := hy
    subst hy'
    have g' : (!isNon d) = z := Option.some.inj g
    refine op_notN pins s σ H x _ v u Q I rx ry ⟨rfl, ?_⟩
    rw [rp_non hx, g']
    exact k
  | bl b =>
    cases b with
    | true =>
      cases d with
      | bl a =>
        cases g
        have hx' : x = V.bl a := hx
        have hy' : y = V.bl true := hy
        subst hx' hy'
        refine op_notBl pins s σ H _ _ v u Q I rx ry ⟨a, true, rfl, rfl, ?_⟩
        cases a <;> exact k
      | _ => cases g
    | false => cases g
  | _ => cases g
theorem ord_uni (o : CmpOp) (ho : o = .Lt ∨ o = .LtE ∨ o = .Gt ∨ o = .GtE) : OpR X (compareOp o) (rUniB X (cmpD o)) := by
  intro pins s σ H x y v u Q I rx ry h
  obtain ⟨B, ρ, σ', F, d, e, z, rel, hx, hy, g, k⟩ := h
  have gi : ∀ {i j : Int}, cmpD o (.int i) (.int j) = some z → icmp o i j = some z := fun {i j} q => by
    rcases ho with rfl | rfl | rfl | rfl <;> exact q
  cases d with
  | int i =>
    cases e with
    | int j =>
      have hx' : x = V.int i := hx
      have hy' : y = V.int j := hy
      subst hx' hy'
      exact cmp_int o pins s σ H _ _ v u Q I rx ry ⟨i, j, z, rfl, rfl, gi g, k⟩
    | _ => rcases ho with rfl | rfl | rfl | rfl <;> cases g
  | str a =>
    cases e with
    | str b =>
      have hx' : x = V.str a := hx
      have hy' : y = V.str b := hy
      subst hx' hy'
      rcases ho with rfl | rfl | rfl | rfl
      · cases g
        exact op_lt_str pins s σ H _ _ v u Q I rx ry ⟨a, b, rfl, rfl, k⟩
      · cases g
        exact op_le_str pins s σ H _ _ v u Q I rx ry ⟨a, b, rfl, rfl, k⟩
      · cases g
      · cases g
    | _ => rcases ho with rfl | rfl | rfl | rfl <;> cases g
  | _ => rcases ho with rfl | rfl | rfl | rfl <;> cases e <;> cases g
theorem cmp_uni (hu : X.A.units + 65 < cLine) (o : CmpOp) : OpR X (compareOp o) (rUniB X (cmpD o)) := by
  cases o with
  | Lt => exact ord_uni .Lt (.inl rfl)
  | LtE => exact ord_uni .LtE (.inr (.inl rfl))
  | Gt => exact ord_uni .Gt (.inr (.inr (.inl rfl)))
  | GtE => exact ord_uni .GtE (.inr (.inr (.inr rfl)))
  | In => exact in_uni hu
  | NotIn => exact notIn_uni hu
  | Is => exact is_uni
  | IsNot => exact isNot_uni
  | Eq =>
    intro pins s σ H x y v u Q I rx ry h
    obtain ⟨B, ρ, σ', F, d, e, z, rel, hx, hy, g, k⟩ := h
    have c : (∃ i j, d = .int i ∧ e = .int j) ∨ cmpD .Eq d e = eqD d e := by cases d <;> cases e <;> first | exact .inl ⟨_, _, rfl, rfl⟩ | exact .inr rfl
    rcases c with ⟨i, j, rfl, rfl⟩ | c
    · have hx' : x = V.int i := hx
      have hy' : y = V.int j := hy
      subst hx' hy'
      exact cmp_int .Eq pins s σ H _ _ v u Q I rx ry ⟨i, j, z, rfl, rfl, g, k⟩
    · rw [c] at g
      exact eqD_rule (by omega) pins s σ H x y v u Q I rx ry ⟨B, ρ, σ', F, d, e, z, rel, hx, hy, g, k⟩
  | NotEq =>
    intro pins s σ H x y v u Q I rx ry h
    obtain ⟨B, ρ, σ', F, d, e, z, rel, hx, hy, g, k⟩ := h
    have c : (∃ i j, d = .int i ∧ e = .int j) ∨ cmpD .NotEq d e = (eqD d e).map (!·) := by cases d <;> cases e <;> first | exact .inl ⟨_, _, rfl, rfl⟩ | exact .inr rfl
    rcases c with ⟨i, j, rfl, rfl⟩ | c
    · have hx' : x = V.int i := hx
      have hy' : y = V.int j := hy
      subst hx' hy'
      exact cmp_int .NotEq pins s σ H _ _ v u Q I rx ry ⟨i, j, z, rfl, rfl, g, k⟩
    · rw [c] at g
      exact neD_rule (by omega) pins s σ H x y v u Q I rx ry ⟨B, ρ, σ', F, d, e, z, rel, hx, hy, g, k⟩
/-- truth -/
theorem tru_uni {K : PySem.W.Frag} {B : Fx} {ρ : Rho} {σ : St} {F H : Hp} {d : D} {x : V} {z : Bool} (rel : Rel K B ρ σ F H) (hx : Rq K F H d x) (g : truthD d = some z) : TruV K x H z := by
  cases d with
  | non =>
    have hx' : x = V.non := hx
    subst hx'
    exact (Option.some.inj g).symm
  | bl b =>
    have hx' : x = V.bl b := hx
    subst hx'
    exact (Option.some.inj g).symm
  | int b =>
    have hx' : x = V.int b := hx
    subst hx'
    exact (Option.some.inj g).symm
  | str b =>
    have hx' : x = V.str b := hx
    subst hx'
    simp only [truthD] at g
    split at g
    · rename_i c
      cases g
      refine ⟨c, ?_⟩
      by_cases e : b.length = 0
      · simp [e]
      · simp [e, bne, show ((b.length : Int) == 0) = false from beq_eq_false_iff_ne.mpr (by omega)]
    · cases g
  | lst l =>
    obtain ⟨p, vs, rfl, h1, h2⟩ := hx
    cases g
    refine .inl ⟨vs, SqL.of h1, ?_⟩
    have := h2.length
    cases l <;> cases vs <;> first | rfl | (simp at this)
  | tup l =>
    obtain ⟨p, vs, rfl, h1, h2⟩ := hx
    cases g
    refine .inr (.inl ⟨vs, Same.tupT rel.sub h1, ?_⟩)
    have := h2.length
    cases l <;> cases vs <;> first | rfl | (simp at this)
  | dic _ _ _ => cases g
  | gl _ => exact hx.elim
  | scr _ => cases g
theorem un_uni (o : UnaryOp) : UnR X (unaryOp o) (fun x H Q => ∃ (F : Hp) (d z : D), Rq X.K F H d x ∧ unD o d = some z ∧ ∀ v, Rp X.K F z v → Q v H) := by
  intro pins s σ H x v Q I rx h
  obtain ⟨F, d, z, hx, g, k⟩ := h
  cases o with
  | USub =>
    cases d with
    | int i =>
      cases g
      exact un_neg pins s σ H x v Q I rx ⟨i, hx, k _ rfl⟩
    | _ => cases g
  | Invert =>
    cases d with
    | int i =>
      cases g
      exact un_inv pins s σ H x v Q I rx ⟨i, hx, k _ rfl⟩
    | _ => cases g
  | _ => cases d <;> cases g
theorem ixOf_eq (n : Nat) (i : Int) : ixOf n i = ixN n i := rfl
theorem ix_uni (hu : X.A.units + 1 < cLine) : IxR X (fun x y H Q => ∃ (B : Fx) (ρ : Rho) (σ : St) (F : Hp) (d e z : D), Rel X.K B ρ σ F H ∧ Rq X.K F H d x ∧ Rq X.K F H e y ∧ ixD d e = some z ∧ ∀ v, Rp X.K F z v → Q v H) := by
  intro ve se pins s σ H x y v u Q I rx ry h hs
  obtain ⟨B, ρ, σ', F, d, e, z, rel, hx, hy, g, k⟩ := h
  by_cases hd : ∃ t ks us, d = .dic t ks us
  · obtain ⟨t, ks, us, rfl⟩ := hd
    obtain ⟨a, ws, rfl, ⟨o, h1, h2⟩, h3⟩ := hx
    simp only [ixD] at g
    split at g
    · rename_i hk
      obtain ⟨w, g1, g2⟩ := look_get rel.sub h1 h2 h3 hk hy g
      exact ix_dict hu ve se pins s σ H _ _ v u Q I rx ry ⟨a, w, rfl, g1, k w g2⟩ hs
    · cases g
  cases e with
  | int i =>
    have hy' : y = V.int i := hy
    subst hy'
    cases d with
    | dic t ks us => exact absurd ⟨t, ks, us, rfl⟩ hd
    | lst l =>
      obtain ⟨p, vs, rfl, h1, h2⟩ := hx
      simp only [ixD] at g
      obtain ⟨j, e1, e2⟩ := Option.bind_eq_some_iff.mp g
      obtain ⟨w, e3, e4⟩ := h2.get e2
      refine ix_list ve se pins s σ H _ _ v u Q I rx ry ⟨p, vs, i, w, rfl, rfl, SqL.of h1, ?_, k w e4⟩ hs
      show (ixN vs.length i).bind (fun j => vs[j]?) = some w
      rw [← h2.length, ← ixOf_eq, e1]
      exact e3
    | tup l =>
      obtain ⟨p, vs, rfl, h1, h2⟩ := hx
      simp only [ixD] at g
      obtain ⟨j, e1, e2⟩ := Option.bind_eq_some_iff.mp g
      obtain ⟨w, e3, e4⟩ := h2.get e2
      refine ix_tup ve se pins s σ H _ _ v u Q I rx ry ⟨p, vs, i, w, rfl, rfl, Same.tupT rel.sub h1, ?_, k w e4⟩ hs
      show (ixN vs.length i).bind (fun j => vs[j]?) = some w
      rw [← h2.length, ← ixOf_eq, e1]
      exact e3
    | str a =>
      have hx' : x = V.str a := hx
      subst hx'
      simp only [ixD] at g
      split at g
      · rename_i c
        obtain ⟨j, e1, e2⟩ := Option.bind_eq_some_iff.mp g
        obtain ⟨w, e3, e4⟩ := map_some e2
        subst e4
        refine ix_str ve se pins s σ H _ _ v u Q I rx ry ⟨a, i, w, rfl, rfl, c, ?_, k _ rfl⟩ hs
        show (ixN a.cps.toList.length i).bind (fun j => a.cps.toList[j]?) = some w
        rw [← ixOf_eq, e1]
        exact e3
      · cases g
    | _ => cases g
  | _ => cases d <;> first | (cases g; done) | exact absurd ⟨_, _, _, rfl⟩ hd
theorem clip_eq (n d : Nat) (hd : d ≤ n) (o : Option Int) : clip n d o = HT.sIx n d o := by
  cases o with
  | none => rfl
  | some v =>
    have h := HT.clip_eq v n d
    show ((if v < 0 then max (v + n) 0 else min v n).toNat) = _
    rw [h]
    simp
theorem cut_eq {α : Type} (xs : List α) (lo hi : Option Int) : cutL xs lo hi = (xs.drop (HT.sIx xs.length 0 lo)).take (HT.sIx xs.length xs.length hi - HT.sIx xs.length 0 lo) := by
  unfold cutL
  rw [clip_eq _ _ (Nat.zero_le _), clip_eq _ _ (Nat.le_refl _)]
theorem RpL.cut {K : PySem.W.Frag} {F : Hp} {ds : List D} {vs : List V} (h : RpL K F ds vs) (lo hi : Option Int) : RpL K F (cutL ds lo hi) (cutV vs lo hi) := by
  rw [cut_eq]
  unfold cutV
  rw [← h.length]
  exact RpL.take _ (RpL.drop _ h)
end
end PI
/-! Each expression does what its plain one does. -/
namespace PI
open PySem L2

/-- a program's text and where its defs stand -/
structure Wd where
  P : Program
  w : World
  K : PySem.W.Frag
  mg : Str → Option Value
  base : Heap
  nm : Nm
  pg : Pg
  fa : Nat → Addr
  fd : Nat → FuncData
  ps : Nat → List Str
  ca : Nat → Addr
/-- the promise of the def f by at most k calls, one in another; io: its first argument is the caller's own list -/
def spI (U : Wd) (k f : Nat) : Sp := fun vs H Q E => ∃ (F : Hp) (ds : List D) (pp : Option Addr), Same F H ∧ Tp F H ∧ vs.length = (U.ps f).length ∧
  (match U.pg.fns[f]? with
    | some ⟨_, _, true, _⟩ => ∃ p d l ws vr, pp = some p ∧ vs = .ref p :: vr ∧ F p = none ∧ H p = some (.lst ws) ∧ ds = .lst l :: d ∧ RpL U.K F l ws ∧ RpL U.K F d vr
    | _ => pp = none ∧ RpL U.K F ds vs) ∧
  (match callN U.pg k f ds with
    | .ok d fr io => ∀ v F' H', Same F F' → Same F' H' → Tp F' H' → (∀ a o, H a = some o → pp ≠ some a → H' a = some o) → (∀ a o, H a = some o → F a = none → F' a = none) →
        (∀ p, pp = some p → ∃ l ws, io = .lst l ∧ H' p = some (.lst ws) ∧ RpL U.K F' l ws) →
        (if fr then ∃ p o, Ob U.K F' d o ∧ v = .ref p ∧ H p = none ∧ F' p = none ∧ H' p = some o else Rp U.K F' d v) → Q v H'
    | .err c _ => ∀ F' H', Same F F' → Same F' H' → Tp F' H' → (∀ a o, H a = some o → pp ≠ some a → H' a = some o) → (∀ a o, H a = some o → F a = none → F' a = none) → E (.ref (U.ca c)) none H'
    | .bad => False)

/-- as FnOk, where no repr is under way -/
structure FnG (P : Program) (w : World) (K : PySem.W.Frag) (mg : Str → Option Value) (base : Heap) (k : Nat) (f : Addr) (fd : FuncData) (ps : List Str) (sp : Sp) : Prop where
  len : ∀ vs H Q E, sp vs H Q E → vs.length = ps.length
  run : ∀ (A : Around) (outer : List Env) (s : Shared) (H : Hp) (args : Args) (us : List Value) (vs : List V) (Q : VK) (E : XK), Room k A → A.guards = some [] → Env0 P w K mg base A outer s H → BindsTo s fd args (ps.zip us) → Vals vs us → sp vs H Q E →
    codeAny (model P w) A (.call (.ref f) args) (CR (L2.CX P w) outer P w H s Q E) s

structure Wd.Ok (U : Wd) : Prop where
  fmg : ∀ x i b, fnIx x U.nm.fns = some (i, b) → U.mg x = some (.ref (U.fa i)) ∧ PySem.W.keepIn U.K (.ref (U.fa i)) = true ∧ Binds U.K (U.fd i) (U.ps i) [] ∧ (∃ F, U.pg.fns[i]? = some F ∧ F.io = b ∧ (U.ps i).length = F.par)
  con : ∀ x d, U.nm.cons.lookup x = some d → ∃ u v, U.mg x = some u ∧ RelV v u ∧ ∀ F, Rp U.K F d v
  blt : ∀ x ∈ (["len", "sum", "all", "any", "tuple", "list", "sorted", "min", "max", "int", "str", "repr", "abs", "dict", "range", "enumerate", "zip", "isinstance"] : List Str), fnIx x U.nm.fns = none → ixIn x U.nm.cls = none → U.nm.cons.lookup x = none → U.mg x = none
  cls : ∀ x i, ixIn x U.nm.cls = some i → U.mg x = some (.ref (U.ca i)) ∧ PySem.W.keepIn U.K (.ref (U.ca i)) = true
  ras : ∀ i ∈ U.nm.ras, PySem.W.excIn U.K (U.ca i) [.type "ValueError", .type "Exception", .type "BaseException", .type "object"] "ValueError.__new__" = true ∧ PySem.W.subIn U.K (.ref (U.ca i)) (.type "BaseException") = some true ∧ PySem.W.typeIn U.K (.ref (U.ca i)) = some (.type "type")
  anc : ∀ i j b, (U.pg.anc[i]?).bind (fun r => r[j]?) = some b → PySem.W.exmOne U.K (.ref (U.ca i)) (.ref (U.ca j)) = some b
/-- the calls one deeper are kept -/
def Wd.Calls (U : Wd) (k : Nat) : Prop := ∀ x i b, fnIx x U.nm.fns = some (i, b) → FnG U.P U.w U.K U.mg U.base k (U.fa i) (U.fd i) (U.ps i) (spI U k i)

/-- the context of a def's body, or of a comprehension's block in it -/
structure XOk (U : Wd) (k : Nat) (c : Cc) (X : Cx) : Prop where
  P : X.prog = U.P
  w : X.w = U.w
  K : X.K = U.K
  mg : X.mg = U.mg
  base : X.base = U.base
  nm : c.nm = U.nm
  N : X.N = c.N
  nd : X.N.Nodup
  sc : X.env.scope = c.sc
  fnk : c.sc.kind = .function
  calm : X.calm = true
  room : Room k X.A
  grd : X.A.guards = some []
  ok : U.Ok
  calls : U.Calls k
  tgt : ∀ x, loc c.ts x = true → Loc X.env.scope x ∧ (X.fn x = true ∨ X.env.scope.names.lookup x = some .local)
def Wd.gm (U : Wd) (k : Nat) : Gm := U.pg.gm (callN U.pg k)

def okE (K : PySem.W.Frag) (B : Fx) (σ : St) (F : Hp) (Q : VK) (p : R × Rho) : Prop := ∀ v F' H', Rel K B p.2 σ F' H' → Same F F' → Rs K B p.2 σ F' H' p.1 v → Q v H'
def erE (U : Wd) (K : PySem.W.Frag) (B : Fx) (σ : St) (W : WX) (c : Nat) (pl : List D) (ρ : Rho) : Prop := ∀ F H, Rel K B ρ σ F H → W (.ref (U.ca c)) none σ H
def TEok (U : Wd) (K : PySem.W.Frag) (k : Nat) (W : WX) (i : E) (t : TE) : Prop := ∀ (B : Fx) (ρ : Rho) (σ : St) (F H : Hp) (Q : VK), Rel K B ρ σ F H → Po (ev (U.gm k) i ρ) (okE K B σ F Q) (erE U K B σ W) → t σ H Q
def SE (U : Wd) (k : Nat) (c : Cc) (e : Expr) (i : E) : Prop := ∀ (X : Cx) (W : WX), XOk U k c X → Takes X W → ∃ t, PE X e t ∧ TEok U X.K k W i t
/-- a test -/
def TTok (U : Wd) (K : PySem.W.Frag) (k : Nat) (W : WX) (i : E) (t : TT) : Prop := ∀ (B : Fx) (ρ : Rho) (σ : St) (F H : Hp) (Q : Bool → Hp → Prop), Rel K B ρ σ F H →
  Po (trO (ev (U.gm k) i ρ)) (fun p => ∀ F' H', Rel K B p.2 σ F' H' → Same F F' → Q p.1 H') (erE U K B σ W) → t σ H Q
def ST (U : Wd) (k : Nat) (c : Cc) (e : Expr) (i : E) : Prop := ∀ (X : Cx) (W : WX), XOk U k c X → Takes X W → ∃ t, PT X e t ∧ TTok U X.K k W i t

section
variable {U : Wd} {K : PySem.W.Frag} {k : Nat} {c : Cc} {X : Cx} {W : WX}

theorem okName_dbg {x : Str} (h : okName x = true) : (x == ("__debug__" : Str)) = false ∧ (x == ("__classdict__" : Str)) = false ∧ x ≠ ("__name__" : Str) := by
  unfold okName at h
  simp only [Bool.and_eq_true, Bool.not_eq_true'] at h
  exact ⟨h.1.1, h.1.2, fun e => by
    have q := h.2
    rw [e] at q
    simp at q⟩
theorem ixIn_get {x : Str} : ∀ {l : List Str} {i : Nat}, ixIn x l = some i → l[i]? = some x
  | [], _, h => by cases h
  | y :: r, i, h => by
    unfold ixIn at h
    split at h
    · rename_i e
      cases h
      rw [e]
      rfl
    · obtain ⟨j, e1, e2⟩ := map_some h
      rw [e2]
      simpa using ixIn_get e1
theorem vis_of {sc : Scope} {x : Str} (h : vis sc x = true) : Vis sc x := by
  unfold vis at h
  split at h
  · rename_i e
    exact .inl e
  · rename_i e
    exact .inr (.inl e)
  · rename_i e
    exact .inr (.inr e)
  · cases h
theorem slot_get {x : Str} {i : Nat} (h : c.slot x = some i) (ok : XOk U k c X) : X.N[i]? = some x ∧ Vis X.env.scope x ∧ okName x = true := by
  unfold Cc.slot at h
  split at h
  · rename_i e
    rw [Bool.and_eq_true] at e
    exact ⟨by rw [ok.N]; exact ixIn_get h, by rw [ok.sc]; exact vis_of e.1, e.2⟩
  · cases h
theorem gbl_of {x : Str} (h : gbl c.sc x = true) (ok : XOk U k c X) : Gl X x := by
  unfold gbl at h
  split at h
  · rename_i e
    show X.env.scope.names.lookup x = _
    rw [ok.sc]
    exact e
  · cases h

/-! ### names and constants -/
theorem te_var (i : Nat) : TEok U K k W (.var i) (tVar i) := by
  intro B ρ σ F H Q rel h
  rw [ev] at h
  obtain ⟨p, e, ho⟩ := Po.ofO h
  obtain ⟨r, e1, e2⟩ := map_some e
  subst e2
  unfold rdVar at e1
  cases q : ρ[i]? with
  | none => simp [q] at e1
  | some s =>
    cases s with
    | no => simp [q] at e1
    | val d =>
      simp [q] at e1
      subst e1
      obtain ⟨v, h1, h2⟩ := rel.val i d q
      exact ⟨v, h1, ho v F H rel (Same.refl F) h2⟩
    | own m d =>
      simp [q] at e1
      subst e1
      obtain ⟨p, o, h1, h2, h3⟩ := rel.own i m d q
      exact ⟨_, h2, ho _ F H rel (Same.refl F) ⟨⟨_, q, by simp⟩, h2⟩⟩
    | lent d =>
      simp [q] at e1
      subst e1
      obtain ⟨p, ds, vs, h1, h2, h3⟩ := rel.lent i d q
      exact ⟨_, h2, ho _ F H rel (Same.refl F) ⟨⟨_, q, by simp⟩, h2⟩⟩
theorem s_var {x : Str} {i : Nat} {p : Pos} (h : c.slot x = some i) : SE U k c (.Name x p) (.var i) := by
  intro X W ok tk
  obtain ⟨h1, h2, h3⟩ := slot_get h ok
  obtain ⟨d1, d2, _⟩ := okName_dbg h3
  exact ⟨_, pe_var h1 h2 d1 d2, te_var i⟩
theorem te_con {d : D} {v : V} (h : ∀ F, Rp K F d v) : TEok U K k W (.con d) (tC v) := by
  intro B ρ σ F H Q rel hp
  rw [ev] at hp
  exact hp v F H rel (Same.refl F) (h F)
theorem s_glob {x : Str} {d : D} {p : Pos} (hg : gbl c.sc x = true) (ho : okName x = true) (hd : c.nm.cons.lookup x = some d) : SE U k c (.Name x p) (.con d) := by
  intro X W ok tk
  rw [ok.nm] at hd
  obtain ⟨u, v, h1, h2, h3⟩ := ok.ok.con x d hd
  obtain ⟨d1, d2, _⟩ := okName_dbg ho
  exact ⟨_, pe_glob (gbl_of hg ok) (by rw [ok.mg]; exact h1) h2 d1, te_con (by rw [ok.K]; exact h3)⟩
theorem s_non {j : Nat} {p : Pos} : SE U k c (.Constant .none j p) (.con .non) := fun X W ok tk => ⟨_, pe_non, te_con fun _ => rfl⟩
theorem s_bl {b : Bool} {j : Nat} {p : Pos} : SE U k c (.Constant (.bool b) j p) (.con (.bl b)) := fun X W ok tk => ⟨_, pe_bl, te_con fun _ => rfl⟩
theorem s_int {b : Int} {j : Nat} {p : Pos} : SE U k c (.Constant (.int b) j p) (.con (.int b)) := fun X W ok tk => ⟨_, pe_int, te_con fun _ => rfl⟩
theorem s_str {b : Str} {j : Nat} {p : Pos} : SE U k c (.Constant (.str b) j p) (.con (.str b)) := fun X W ok tk => ⟨_, pe_str, te_con fun _ => rfl⟩

/-! ### one behind another -/
/-- an expression, then more -/
theorem one {β : Type} {i : E} {ta : TE} (ha : TEok U K k W i ta) {B : Fx} {ρ : Rho} {σ : St} {F H : Hp} (rel : Rel K B ρ σ F H) {f : R × Rho → Out β} {okb : β → Prop} {Q : VK} (h : Po (ev (U.gm k) i ρ >>= f) okb (erE U K B σ W))
    (hk : ∀ r ρ' v F' H', Rel K B ρ' σ F' H' → Same F F' → Rs K B ρ' σ F' H' r.set v → Po (f (r, ρ')) okb (erE U K B σ W) → Q v H') : ta σ H Q := by
  refine ha B ρ σ F H Q rel (Po.mono (Po.bind h) (fun p hp v F' H' rel' sm rs => ?_) fun _ _ _ e => e)
  obtain ⟨F2, s2, rel2, rs2⟩ := rs.settle rel'
  exact hk p.1 p.2 v F2 H' rel2 (sm.trans s2) rs2 hp
theorem Po.ofO' {α β : Type} {x : Option α} {f : α → Out β} {okb : β → Prop} {er : Nat → List D → Rho → Prop} (h : Po (PI.ofO x >>= f) okb er) : ∃ a, x = some a ∧ Po (f a) okb er := Po.ofO (Po.bind h)
theorem unitsOk (ok : XOk U k c X) : X.A.units + 65 < cLine := by
  have := ok.room.un
  omega

theorem s_op {a b : Expr} {a' b' : E} {o : Operator} {p : Pos} (sa : SE U k c a a') (sb : SE U k c b b') : SE U k c (.BinOp a o b p) (.op o a' b') := by
  intro X W ok tk
  obtain ⟨ta, pa, ha⟩ := sa X W ok tk
  obtain ⟨tb, pb, hb⟩ := sb X W ok tk
  refine ⟨_, pe_op (op_uni o) pa pb, fun B ρ σ F H Q rel h => ?_⟩
  rw [ev] at h
  refine one ha rel h fun r ρ1 v F1 H1 rel1 s1 rs1 h1 => one hb rel1 h1 fun q ρ2 u F2 H2 rel2 s2 rs2 h2 => ?_
  obtain ⟨x, e1, h3⟩ := Po.ofO' h2
  obtain ⟨y, e2, h4⟩ := Po.ofO' h3
  obtain ⟨z, e3, h5⟩ := Po.ofO' h4
  exact ⟨B, ρ2, σ, F2, x, y, z, rel2, rs1.read s2 rel2 e1, rs2.read (Same.refl F2) rel2 e2, e3, fun v F' H' r' s' rs' => h5 v F' H' r' ((s1.trans s2).trans s') rs'⟩

/-! ### operators, comparisons, truth -/
theorem s_un {a : Expr} {a' : E} {o : UnaryOp} {p : Pos} (sa : SE U k c a a') : SE U k c (.UnaryOp o a p) (.un o a') := by
  intro X W ok tk
  obtain ⟨ta, pa, ha⟩ := sa X W ok tk
  refine ⟨_, pe_un (un_uni o) pa, fun B ρ σ F H Q rel h => ?_⟩
  rw [ev] at h
  refine one ha rel h fun r ρ1 v F1 H1 rel1 s1 rs1 h1 => ?_
  obtain ⟨x, e1, h2⟩ := Po.ofO' h1
  obtain ⟨z, e2, h3⟩ := Po.ofO' h2
  exact ⟨F1, x, z, rs1.read (Same.refl F1) rel1 e1, e2, fun v hv => h3 v F1 H1 rel1 s1 hv⟩
theorem cmp_mark {o : CmpOp} {b : Expr} (h : cmpOk o b = true) : behindInMarks o b = false := by
  cases o with
  | Is => exact nomark _
  | IsNot => exact nomark _
  | _ => exact (Bool.not_eq_true' _).mp (by cases b <;> exact h)
theorem s_cmp {a b : Expr} {a' b' : E} {o : CmpOp} {p : Pos} (hm : cmpOk o b = true) (sa : SE U k c a a') (sb : SE U k c b b') : SE U k c (.Compare a [o] [b] p) (.cmp o a' b') := by
  intro X W ok tk
  obtain ⟨ta, pa, ha⟩ := sa X W ok tk
  obtain ⟨tb, pb, hb⟩ := sb X W ok tk
  refine ⟨_, pe_cmpR (cmp_uni (unitsOk ok) o) pa pb (cmp_mark hm), fun B ρ σ F H Q rel h => ?_⟩
  rw [ev] at h
  refine one ha rel h fun r ρ1 v F1 H1 rel1 s1 rs1 h1 => one hb rel1 h1 fun q ρ2 u F2 H2 rel2 s2 rs2 h2 => ?_
  obtain ⟨x, e1, h3⟩ := Po.ofO' h2
  obtain ⟨y, e2, h4⟩ := Po.ofO' h3
  obtain ⟨z, e3, h5⟩ := Po.ofO' h4
  exact ⟨B, ρ2, σ, F2, x, y, z, rel2, rs1.read s2 rel2 e1, rs2.read (Same.refl F2) rel2 e2, e3, h5 _ F2 H2 rel2 (s1.trans s2) rfl⟩
theorem chain_marks {o o' : CmpOp} {b d : Expr} (h : cmpOk o' d = true) : lastMarks [o, o'] [b, d] = false := by
  have := cmp_mark h
  simpa [lastMarks] using this
theorem s_chain {a b d : Expr} {a' b' d' : E} {o o' : CmpOp} {p : Pos} (hm : cmpOk o' d = true) (sa : SE U k c a a') (sb : SE U k c b b') (sd : SE U k c d d') : SE U k c (.Compare a [o, o'] [b, d] p) (.chain o o' a' b' d') := by
  intro X W ok tk
  obtain ⟨ta, pa, ha⟩ := sa X W ok tk
  obtain ⟨tb, pb, hb⟩ := sb X W ok tk
  obtain ⟨td, pd, hd⟩ := sd X W ok tk
  refine ⟨_, pe_chain (cmp_uni (unitsOk ok) o) (cmp_uni (unitsOk ok) o') pa pb pd (chain_marks hm), fun B ρ σ F H Q rel h => ?_⟩
  rw [ev] at h
  refine one ha rel h fun r ρ1 v F1 H1 rel1 s1 rs1 h1 => one hb rel1 h1 fun q ρ2 u F2 H2 rel2 s2 rs2 h2 => ?_
  obtain ⟨x, e1, h3⟩ := Po.ofO' h2
  obtain ⟨y, e2, h4⟩ := Po.ofO' h3
  obtain ⟨z, e3, h5⟩ := Po.ofO' h4
  refine ⟨B, ρ2, σ, F2, x, y, z, rel2, rs1.read s2 rel2 e1, rs2.read (Same.refl F2) rel2 e2, e3, z, rfl, ?_⟩
  cases z with
  | false => exact h5 _ F2 H2 rel2 (s1.trans s2) rfl
  | true =>
    refine one hd rel2 h5 fun q' ρ3 w F3 H3 rel3 s3 rs3 h6 => ?_
    obtain ⟨y2, e4, h7⟩ := Po.ofO' h6
    obtain ⟨x2, e5, h8⟩ := Po.ofO' h7
    obtain ⟨z2, e6, h9⟩ := Po.ofO' h8
    exact ⟨B, ρ3, σ, F3, y2, x2, z2, rel3, rs2.read s3 rel3 e4, rs3.read (Same.refl F3) rel3 e5, e6, h9 _ F3 H3 rel3 ((s1.trans s2).trans s3) rfl⟩
/-- a o b o' d o'' f -/
def tChain3 (r r' r'' : R2) (ta tb tc td : TE) : TE := fun σ H Q => ta σ H fun x H1 => tb σ H1 fun y H2 => r x y H2 fun z H3 => ∃ k, z = .bl k ∧
  (if k = true then tc σ H3 fun w' H4 => r' y w' H4 fun z' H5 => ∃ k', z' = .bl k' ∧ (if k' = true then td σ H5 fun w'' H6 => r'' w' w'' H6 Q else Q (.bl false) H5) else Q (.bl false) H3)
theorem pe_chain3 {a b d f : Expr} {ta tb tc td : TE} {pos : Pos} {op op' op'' : CmpOp} {r r' r'' : R2} (ho : OpR X (compareOp op) r) (ho' : OpR X (compareOp op') r') (ho'' : OpR X (compareOp op'') r'') (ha : PE X a ta) (hb : PE X b tb) (hc : PE X d tc) (hd : PE X f td)
    (hm : lastMarks [op, op', op''] [b, d, f] = false) : PE X (.Compare a [op, op', op''] [b, d, f] pos) (tChain3 r r' r'' ta tb tc td) := by
  refine ⟨fun pins s σ H Q I h => ?_⟩
  refine PyProof.Rows.Compare_chain (thn (ha.run pins s σ H _ I h) fun v s1 ⟨x, H1, I1, r1, q1⟩ => PyProof.Rows.chain_link (thn (hb.run pins s1 σ H1 _ I1 q1) fun u s2 ⟨y, H2, I2, r2, q2⟩ =>
    thn (ho pins s2 σ H2 x y v u _ I2 r1 r2 q2) fun e s3 ⟨z, H3, I3, r3, k, e', q3⟩ => ?_)) hm
  subst e'
  cases r3
  refine wpAny_truthy_bool ?_
  cases k with
  | false => exact PyProof.Rows.ite_ff ⟨.bl false, H3, I3, rfl, q3⟩
  | true =>
    refine PyProof.Rows.ite_tt (PyProof.Rows.chain_link (thn (hc.run pins s3 σ H3 _ I3 q3) fun w' s4 ⟨z', H4, I4, r4, q4⟩ => thn (ho' pins s4 σ H4 y z' u w' _ I4 r2 r4 q4) fun e s5 ⟨z2, H5, I5, r5, k', e', q5⟩ => ?_))
    subst e'
    cases r5
    refine wpAny_truthy_bool ?_
    cases k' with
    | false => exact PyProof.Rows.ite_ff ⟨.bl false, H5, I5, rfl, q5⟩
    | true => exact PyProof.Rows.ite_tt (PyProof.Rows.chain_last (thn (hd.run pins s5 σ H5 _ I5 q5) fun w2 s6 ⟨z3, H6, I6, r6, q6⟩ => ho'' pins s6 σ H6 z' z3 w' w2 Q I6 r4 r6 q6))
theorem pt_chain3 {a b d f : Expr} {ta tb tc td : TE} {pos : Pos} {op op' op'' : CmpOp} {r r' r'' : R2} (ho : OpR X (compareOp op) r) (ho' : OpR X (compareOp op') r') (ho'' : OpR X (compareOp op'') r'') (ha : PE X a ta) (hb : PE X b tb) (hc : PE X d tc) (hd : PE X f td)
    (hm : lastMarks [op, op', op''] [b, d, f] = false) : PT X (.Compare a [op, op', op''] [b, d, f] pos) (tTest (tChain3 r r' r'' ta tb tc td)) := by
  refine ⟨fun pins s σ H Q I h => ?_⟩
  refine PyProof.Rows.isTrue_chain (thn (ha.run pins s σ H _ I h) fun v s1 ⟨x, H1, I1, r1, q1⟩ => PyProof.Rows.test_link (thn (hb.run pins s1 σ H1 _ I1 q1) fun u s2 ⟨y, H2, I2, r2, q2⟩ =>
    thn (ho pins s2 σ H2 x y v u _ I2 r1 r2 q2) fun e s3 ⟨z, H3, I3, r3, k, e', q3⟩ => ?_)) hm
  subst e'
  cases r3
  refine wpAny_truthy_bool ?_
  cases k with
  | false =>
    obtain ⟨k2, e2, q2⟩ := q3
    cases e2
    exact PyProof.Rows.ite_ff ⟨H3, I3, q2⟩
  | true =>
    refine PyProof.Rows.ite_tt (PyProof.Rows.test_link (thn (hc.run pins s3 σ H3 _ I3 q3) fun w' s4 ⟨z', H4, I4, r4, q4⟩ => thn (ho' pins s4 σ H4 y z' u w' _ I4 r2 r4 q4) fun e s5 ⟨z2, H5, I5, r5, k', e', q5⟩ => ?_))
    subst e'
    cases r5
    refine wpAny_truthy_bool ?_
    cases k' with
    | false =>
      obtain ⟨k2, e2, q2⟩ := q5
      cases e2
      exact PyProof.Rows.ite_ff ⟨H5, I5, q2⟩
    | true =>
      refine PyProof.Rows.ite_tt (PyProof.Rows.test_last (thn (hd.run pins s5 σ H5 _ I5 q5) fun w2 s6 ⟨z3, H6, I6, r6, q6⟩ => thn (ho'' pins s6 σ H6 z' z3 w' w2 _ I6 r4 r6 q6) fun d' s7 ⟨z4, H7, I7, r7, k4, e4, q7⟩ => ?_))
      subst e4
      cases r7
      exact wpAny_truthy_bool ⟨H7, I7, q7⟩
theorem chain3_marks {o o' o'' : CmpOp} {b d f : Expr} (h : cmpOk o'' f = true) : lastMarks [o, o', o''] [b, d, f] = false := by
  have := cmp_mark h
  simpa [lastMarks] using this
theorem te_chain3 {a' b' d' f' : E} {o o' o'' : CmpOp} {ta tb td tf : TE} (ok : XOk U k c X) (ha : TEok U X.K k W a' ta) (hb : TEok U X.K k W b' tb) (hd : TEok U X.K k W d' td) (hf : TEok U X.K k W f' tf) :
    TEok U X.K k W (.chain3 o o' o'' a' b' d' f') (tChain3 (rUniB X (cmpD o)) (rUniB X (cmpD o')) (rUniB X (cmpD o'')) ta tb td tf) := by
  intro B ρ σ F H Q rel h
  rw [ev] at h
  refine one ha rel h fun r ρ1 v F1 H1 rel1 s1 rs1 h1 => one hb rel1 h1 fun q ρ2 u F2 H2 rel2 s2 rs2 h2 => ?_
  obtain ⟨x, e1, h3⟩ := Po.ofO' h2
  obtain ⟨y, e2, h4⟩ := Po.ofO' h3
  obtain ⟨z, e3, h5⟩ := Po.ofO' h4
  refine ⟨B, ρ2, σ, F2, x, y, z, rel2, rs1.read s2 rel2 e1, rs2.read (Same.refl F2) rel2 e2, e3, z, rfl, ?_⟩
  cases z with
  | false => exact h5 _ F2 H2 rel2 (s1.trans s2) rfl
  | true =>
    refine one hd rel2 h5 fun q' ρ3 w F3 H3 rel3 s3 rs3 h6 => ?_
    obtain ⟨y2, e4, h7⟩ := Po.ofO' h6
    obtain ⟨x2, e5, h8⟩ := Po.ofO' h7
    obtain ⟨z2, e6, h9⟩ := Po.ofO' h8
    refine ⟨B, ρ3, σ, F3, y2, x2, z2, rel3, rs2.read s3 rel3 e4, rs3.read (Same.refl F3) rel3 e5, e6, z2, rfl, ?_⟩
    cases z2 with
    | false => exact h9 _ F3 H3 rel3 ((s1.trans s2).trans s3) rfl
    | true =>
      refine one hf rel3 h9 fun q'' ρ4 w2 F4 H4 rel4 s4 rs4 h10 => ?_
      obtain ⟨y3, e7, h11⟩ := Po.ofO' h10
      obtain ⟨x3, e8, h12⟩ := Po.ofO' h11
      obtain ⟨z3, e9, h13⟩ := Po.ofO' h12
      exact ⟨B, ρ4, σ, F4, y3, x3, z3, rel4, rs3.read s4 rel4 e7, rs4.read (Same.refl F4) rel4 e8, e9, h13 _ F4 H4 rel4 (((s1.trans s2).trans s3).trans s4) rfl⟩
theorem s_chain3 {a b d f : Expr} {a' b' d' f' : E} {o o' o'' : CmpOp} {p : Pos} (hm : cmpOk o'' f = true) (sa : SE U k c a a') (sb : SE U k c b b') (sd : SE U k c d d') (sf : SE U k c f f') : SE U k c (.Compare a [o, o', o''] [b, d, f] p) (.chain3 o o' o'' a' b' d' f') := by
  intro X W ok tk
  obtain ⟨ta, pa, ha⟩ := sa X W ok tk
  obtain ⟨tb, pb, hb⟩ := sb X W ok tk
  obtain ⟨td, pd, hd⟩ := sd X W ok tk
  obtain ⟨tf, pf, hf⟩ := sf X W ok tk
  exact ⟨_, pe_chain3 (cmp_uni (unitsOk ok) o) (cmp_uni (unitsOk ok) o') (cmp_uni (unitsOk ok) o'') pa pb pd pf (chain3_marks hm), te_chain3 ok ha hb hd hf⟩
theorem Rs.again {B : Fx} {ρ : Rho} {σ : St} {F H : Hp} {r : R} {v : V} (h : Rs K B ρ σ F H r.set v) (rel : Rel K B ρ σ F H) : Rs K B ρ σ F H r.set v := h
/-- the settled value in the place of the new one -/
theorem okE_set {B : Fx} {σ : St} {F : Hp} {Q : VK} {r : R} {ρ : Rho} (h : okE K B σ F Q (r, ρ)) {v : V} {F' H' : Hp} (rel : Rel K B ρ σ F' H') (s : Same F F') (hr : Rs K B ρ σ F' H' r v) : Q v H' := h v F' H' rel s hr
theorem s_and {a : Expr} {r : List Expr} {d : Expr} {a' r' : E} {p : Pos} (sa : SE U k c a a') (sr : SE U k c (.BoolOp .And (d :: r) p) r') : SE U k c (.BoolOp .And (a :: d :: r) p) (.and a' r') := by
  intro X W ok tk
  obtain ⟨ta, pa, ha⟩ := sa X W ok tk
  obtain ⟨tr, pr, hr⟩ := sr X W ok tk
  refine ⟨_, pe_andT pa pr, fun B ρ σ F H Q rel h => ?_⟩
  rw [ev] at h
  refine ha B ρ σ F H _ rel (Po.mono (Po.bind h) (fun q hq v F' H' rel' sm rs => ?_) fun _ _ _ e => e)
  obtain ⟨x, e1, h2⟩ := Po.ofO' hq
  obtain ⟨z, e2, h3⟩ := Po.ofO' h2
  obtain ⟨F2, s2, rel2, rs2⟩ := rs.settle rel'
  refine ⟨z, tru_uni rel2 (rs2.read (Same.refl F2) rel2 e1) e2, ?_⟩
  cases z with
  | true => exact hr B _ σ F2 H' Q rel2 (Po.mono h3 (fun p hp v' F3 H3 r3 s3 rs3 => hp v' F3 H3 r3 ((sm.trans s2).trans s3) rs3) fun _ _ _ e => e)
  | false => exact h3 v F' H' rel' sm rs
theorem s_or {a : Expr} {r : List Expr} {d : Expr} {a' r' : E} {p : Pos} (sa : SE U k c a a') (sr : SE U k c (.BoolOp .Or (d :: r) p) r') : SE U k c (.BoolOp .Or (a :: d :: r) p) (.or a' r') := by
  intro X W ok tk
  obtain ⟨ta, pa, ha⟩ := sa X W ok tk
  obtain ⟨tr, pr, hr⟩ := sr X W ok tk
  refine ⟨_, pe_orT pa pr, fun B ρ σ F H Q rel h => ?_⟩
  rw [ev] at h
  refine ha B ρ σ F H _ rel (Po.mono (Po.bind h) (fun q hq v F' H' rel' sm rs => ?_) fun _ _ _ e => e)
  obtain ⟨x, e1, h2⟩ := Po.ofO' hq
  obtain ⟨z, e2, h3⟩ := Po.ofO' h2
  obtain ⟨F2, s2, rel2, rs2⟩ := rs.settle rel'
  refine ⟨z, tru_uni rel2 (rs2.read (Same.refl F2) rel2 e1) e2, ?_⟩
  cases z with
  | false => exact hr B _ σ F2 H' Q rel2 (Po.mono h3 (fun p hp v' F3 H3 r3 s3 rs3 => hp v' F3 H3 r3 ((sm.trans s2).trans s3) rs3) fun _ _ _ e => e)
  | true => exact h3 v F' H' rel' sm rs
theorem s_bool1 {a : Expr} {a' : E} {o : BoolOp} {p : Pos} (sa : SE U k c a a') : SE U k c (.BoolOp o [a] p) a' := by
  intro X W ok tk
  obtain ⟨ta, pa, ha⟩ := sa X W ok tk
  exact ⟨_, pe_one pa, ha⟩
/-- a value's truth, as a test -/
theorem tt_of {i : E} {t : TE} (ha : TEok U K k W i t) : TTok U K k W i (fun σ H Q => t σ H fun x H' => ∃ z, TruV K x H' z ∧ Q z H') := by
  intro B ρ σ F H Q rel h
  refine one ha rel h fun r ρ1 v F1 H1 rel1 s1 rs1 h1 => ?_
  obtain ⟨x, e1, h2⟩ := Po.ofO' h1
  obtain ⟨z, e2, h3⟩ := Po.ofO' h2
  exact ⟨z, tru_uni rel1 (rs1.read (Same.refl F1) rel1 e1) e2, h3 F1 H1 rel1 s1⟩

/-! ### tests -/
theorem tr_and {Γ : Gm} {a b : E} {ρ : Rho} : trO (ev Γ (.and a b) ρ) = (trO (ev Γ a ρ) >>= fun p => if p.1 then trO (ev Γ b p.2) else pure (false, p.2)) := by
  rw [ev]
  cases h : ev Γ a ρ with
  | err c pl r => rfl
  | bad => rfl
  | ok p =>
    obtain ⟨r, ρ1⟩ := p
    cases h1 : fetch ρ1 r with
    | none => simp [trO, h1]
    | some x =>
      cases h2 : truthD x with
      | none => simp [trO, h1, h2]
      | some z => cases z <;> simp [trO, h1, h2]
theorem tr_or {Γ : Gm} {a b : E} {ρ : Rho} : trO (ev Γ (.or a b) ρ) = (trO (ev Γ a ρ) >>= fun p => if p.1 then pure (true, p.2) else trO (ev Γ b p.2)) := by
  rw [ev]
  cases h : ev Γ a ρ with
  | err c pl r => rfl
  | bad => rfl
  | ok p =>
    obtain ⟨r, ρ1⟩ := p
    cases h1 : fetch ρ1 r with
    | none => simp [trO, h1]
    | some x =>
      cases h2 : truthD x with
      | none => simp [trO, h1, h2]
      | some z => cases z <;> simp [trO, h1, h2]
theorem tr_not {Γ : Gm} {a : E} {ρ : Rho} : trO (ev Γ (.not a) ρ) = (trO (ev Γ a ρ) >>= fun p => pure (!p.1, p.2)) := by
  rw [ev]
  cases h : trO (ev Γ a ρ) with
  | err c pl r => rfl
  | bad => rfl
  | ok p => rfl
def SW (U : Wd) (k : Nat) (c : Cc) (e : Expr) (i : E) : Prop := ∀ (X : Cx) (W : WX), XOk U k c X → Takes X W → ∃ t, PW X e t ∧ TTok U X.K k W i t
theorem w_one {a : Expr} {a' : E} {o : BoolOp} {p : Pos} (sa : ST U k c a a') : SW U k c (.BoolOp o [a] p) a' := by
  intro X W ok tk
  obtain ⟨ta, pa, ha⟩ := sa X W ok tk
  cases o with
  | And => exact ⟨_, pw_and1 pa, ha⟩
  | Or => exact ⟨_, pw_or1 pa, ha⟩
theorem w_and {a d : Expr} {r : List Expr} {a' r' : E} {p : Pos} (sa : ST U k c a a') (sr : SW U k c (.BoolOp .And (d :: r) p) r') : SW U k c (.BoolOp .And (a :: d :: r) p) (.and a' r') := by
  intro X W ok tk
  obtain ⟨ta, pa, ha⟩ := sa X W ok tk
  obtain ⟨tr, pr, hr⟩ := sr X W ok tk
  refine ⟨_, pw_and pa pr, fun B ρ σ F H Q rel h => ?_⟩
  rw [tr_and] at h
  refine ha B ρ σ F H _ rel (Po.mono (Po.bind h) (fun q hq F' H' rel' sm => ?_) fun _ _ _ e => e)
  obtain ⟨z, ρ1⟩ := q
  cases z with
  | true => exact hr B _ σ F' H' Q rel' (Po.mono hq (fun p hp F3 H3 r3 s3 => hp F3 H3 r3 (sm.trans s3)) fun _ _ _ e => e)
  | false => exact hq F' H' rel' sm
theorem w_or {a d : Expr} {r : List Expr} {a' r' : E} {p : Pos} (sa : ST U k c a a') (sr : SW U k c (.BoolOp .Or (d :: r) p) r') : SW U k c (.BoolOp .Or (a :: d :: r) p) (.or a' r') := by
  intro X W ok tk
  obtain ⟨ta, pa, ha⟩ := sa X W ok tk
  obtain ⟨tr, pr, hr⟩ := sr X W ok tk
  refine ⟨_, pw_or pa pr, fun B ρ σ F H Q rel h => ?_⟩
  rw [tr_or] at h
  refine ha B ρ σ F H _ rel (Po.mono (Po.bind h) (fun q hq F' H' rel' sm => ?_) fun _ _ _ e => e)
  obtain ⟨z, ρ1⟩ := q
  cases z with
  | false => exact hr B _ σ F' H' Q rel' (Po.mono hq (fun p hp F3 H3 r3 s3 => hp F3 H3 r3 (sm.trans s3)) fun _ _ _ e => e)
  | true => exact hq F' H' rel' sm
theorem st_w {e : Expr} {i : E} (s : SW U k c e i) : ST U k c e i := fun X W ok tk =>
  let ⟨t, p, h⟩ := s X W ok tk
  ⟨t, p.pt, h⟩
theorem st_not {a : Expr} {a' : E} {p : Pos} (sa : ST U k c a a') : ST U k c (.UnaryOp .Not a p) (.not a') := by
  intro X W ok tk
  obtain ⟨ta, pa, ha⟩ := sa X W ok tk
  refine ⟨_, pt_not pa, fun B ρ σ F H Q rel h => ?_⟩
  rw [tr_not] at h
  exact ha B ρ σ F H _ rel (Po.mono (Po.bind h) (fun q hq F' H' rel' sm => hq F' H' rel' sm) fun _ _ _ e => e)
theorem s_not {a : Expr} {a' : E} {p : Pos} (sa : SE U k c a a') : SE U k c (.UnaryOp .Not a p) (.not a') := by
  intro X W ok tk
  obtain ⟨ta, pa, ha⟩ := sa X W ok tk
  refine ⟨_, pe_notT pa, fun B ρ σ F H Q rel h => ?_⟩
  rw [ev] at h
  refine tt_of ha B ρ σ F H (fun z H' => Q (.bl (!z)) H') rel (Po.mono (Po.bind h) (fun q hq F' H' rel' sm => hq _ F' H' rel' sm rfl) fun _ _ _ e => e)
theorem s_ifexp {t a b : Expr} {t' a' b' : E} {p : Pos} (st : ST U k c t t') (sa : SE U k c a a') (sb : SE U k c b b') : SE U k c (.IfExp t a b p) (.ite t' a' b') := by
  intro X W ok tk
  obtain ⟨tt, pt, ht⟩ := st X W ok tk
  obtain ⟨ta, pa, ha⟩ := sa X W ok tk
  obtain ⟨tb, pb, hb⟩ := sb X W ok tk
  refine ⟨_, pe_ifExp pt pa pb, fun B ρ σ F H Q rel h => ?_⟩
  rw [ev] at h
  refine ht B ρ σ F H _ rel (Po.mono (Po.bind h) (fun q hq F' H' rel' sm => ?_) fun _ _ _ e => e)
  obtain ⟨z, ρ1⟩ := q
  cases z with
  | true => exact ha B _ σ F' H' Q rel' (Po.mono hq (fun p hp v F3 H3 r3 s3 rs3 => hp v F3 H3 r3 (sm.trans s3) rs3) fun _ _ _ e => e)
  | false => exact hb B _ σ F' H' Q rel' (Po.mono hq (fun p hp v F3 H3 r3 s3 rs3 => hp v F3 H3 r3 (sm.trans s3) rs3) fun _ _ _ e => e)
theorem tt_bool {i : E} {t : TE} (hb : ∀ (Γ : Gm) ρ p, ev Γ i ρ = .ok p → ∃ z, p.1 = .dat (.bl z)) (ha : TEok U K k W i t) : TTok U K k W i (tTest t) := by
  intro B ρ σ F H Q rel h
  refine ha B ρ σ F H _ rel ?_
  cases e : ev (U.gm k) i ρ with
  | err cc pl r =>
    rw [e] at h
    exact h
  | bad =>
    rw [e] at h
    exact h
  | ok p =>
    obtain ⟨z, hz⟩ := hb _ ρ p e
    obtain ⟨r, ρ1⟩ := p
    have hz' : r = .dat (.bl z) := hz
    subst hz'
    rw [e] at h
    exact fun v F' H' rel' sm rs => ⟨z, rs, h F' H' rel' sm⟩
theorem ok_cmp {o : CmpOp} {a b : E} (Γ : Gm) (ρ : Rho) (p : R × Rho) (h : ev Γ (.cmp o a b) ρ = .ok p) : ∃ z, p.1 = .dat (.bl z) := by
  rw [ev] at h
  cases e1 : ev Γ a ρ with
  | err c pl r => simp [e1] at h
  | bad => simp [e1] at h
  | ok p1 =>
    obtain ⟨r, ρ1⟩ := p1
    cases e2 : ev Γ b ρ1 with
    | err c pl r => simp [e1, e2] at h
    | bad => simp [e1, e2] at h
    | ok p2 =>
      obtain ⟨q, ρ2⟩ := p2
      cases e3 : fetch ρ2 r with
      | none => simp [e1, e2, e3] at h
      | some x =>
        cases e4 : fetch ρ2 q with
        | none => simp [e1, e2, e3, e4] at h
        | some y =>
          cases e5 : cmpD o x y with
          | none => simp [e1, e2, e3, e4, e5] at h
          | some z =>
            simp [e1, e2, e3, e4, e5] at h
            exact ⟨z, by rw [← h]⟩
theorem st_cmp {a b : Expr} {a' b' : E} {o : CmpOp} {p : Pos} (hm : cmpOk o b = true) (sa : SE U k c a a') (sb : SE U k c b b') : ST U k c (.Compare a [o] [b] p) (.cmp o a' b') := by
  intro X W ok tk
  obtain ⟨ta, pa, ha⟩ := sa X W ok tk
  obtain ⟨tb, pb, hb⟩ := sb X W ok tk
  refine ⟨_, pt_cmpR (cmp_uni (unitsOk ok) o) pa pb (cmp_mark hm), tt_bool ok_cmp ?_⟩
  intro B ρ σ F H Q rel h
  rw [ev] at h
  refine one ha rel h fun r ρ1 v F1 H1 rel1 s1 rs1 h1 => one hb rel1 h1 fun q ρ2 u F2 H2 rel2 s2 rs2 h2 => ?_
  obtain ⟨x, e1, h3⟩ := Po.ofO' h2
  obtain ⟨y, e2, h4⟩ := Po.ofO' h3
  obtain ⟨z, e3, h5⟩ := Po.ofO' h4
  exact ⟨B, ρ2, σ, F2, x, y, z, rel2, rs1.read s2 rel2 e1, rs2.read (Same.refl F2) rel2 e2, e3, h5 _ F2 H2 rel2 (s1.trans s2) rfl⟩
theorem ok_chain {o o' : CmpOp} {a b d : E} (Γ : Gm) (ρ : Rho) (p : R × Rho) (h : ev Γ (.chain o o' a b d) ρ = .ok p) : ∃ z, p.1 = .dat (.bl z) := by
  rw [ev] at h
  cases e1 : ev Γ a ρ with
  | err c pl r => simp [e1] at h
  | bad => simp [e1] at h
  | ok p1 =>
    obtain ⟨r, ρ1⟩ := p1
    cases e2 : ev Γ b ρ1 with
    | err c pl r => simp [e1, e2] at h
    | bad => simp [e1, e2] at h
    | ok p2 =>
      obtain ⟨q, ρ2⟩ := p2
      cases e3 : fetch ρ2 r with
      | none => simp [e1, e2, e3] at h
      | some x =>
        cases e4 : fetch ρ2 q with
        | none => simp [e1, e2, e3, e4] at h
        | some y =>
          cases e5 : cmpD o x y with
          | none => simp [e1, e2, e3, e4, e5] at h
          | some z =>
            cases z with
            | false =>
              simp [e1, e2, e3, e4, e5] at h
              exact ⟨false, by rw [← h]⟩
            | true =>
              cases e6 : ev Γ d ρ2 with
              | err c pl r => simp [e1, e2, e3, e4, e5, e6] at h
              | bad => simp [e1, e2, e3, e4, e5, e6] at h
              | ok p3 =>
                obtain ⟨q', ρ3⟩ := p3
                cases e7 : fetch ρ3 q with
                | none => simp [e1, e2, e3, e4, e5, e6, e7] at h
                | some y2 =>
                  cases e8 : fetch ρ3 q' with
                  | none => simp [e1, e2, e3, e4, e5, e6, e7, e8] at h
                  | some x2 =>
                    cases e9 : cmpD o' y2 x2 with
                    | none => simp [e1, e2, e3, e4, e5, e6, e7, e8, e9] at h
                    | some z2 =>
                      simp [e1, e2, e3, e4, e5, e6, e7, e8, e9] at h
                      exact ⟨z2, by rw [← h]⟩
theorem st_chain {a b d : Expr} {a' b' d' : E} {o o' : CmpOp} {p : Pos} (hm : cmpOk o' d = true) (sa : SE U k c a a') (sb : SE U k c b b') (sd : SE U k c d d') : ST U k c (.Compare a [o, o'] [b, d] p) (.chain o o' a' b' d') := by
  intro X W ok tk
  obtain ⟨ta, pa, ha⟩ := sa X W ok tk
  obtain ⟨tb, pb, hb⟩ := sb X W ok tk
  obtain ⟨td, pd, hd⟩ := sd X W ok tk
  refine ⟨_, pt_chain (cmp_uni (unitsOk ok) o) (cmp_uni (unitsOk ok) o') pa pb pd (chain_marks hm), tt_bool ok_chain ?_⟩
  intro B ρ σ F H Q rel h
  rw [ev] at h
  refine one ha rel h fun r ρ1 v F1 H1 rel1 s1 rs1 h1 => one hb rel1 h1 fun q ρ2 u F2 H2 rel2 s2 rs2 h2 => ?_
  obtain ⟨x, e1, h3⟩ := Po.ofO' h2
  obtain ⟨y, e2, h4⟩ := Po.ofO' h3
  obtain ⟨z, e3, h5⟩ := Po.ofO' h4
  refine ⟨B, ρ2, σ, F2, x, y, z, rel2, rs1.read s2 rel2 e1, rs2.read (Same.refl F2) rel2 e2, e3, z, rfl, ?_⟩
  cases z with
  | false => exact h5 _ F2 H2 rel2 (s1.trans s2) rfl
  | true =>
    refine one hd rel2 h5 fun q' ρ3 w F3 H3 rel3 s3 rs3 h6 => ?_
    obtain ⟨y2, e4, h7⟩ := Po.ofO' h6
    obtain ⟨x2, e5, h8⟩ := Po.ofO' h7
    obtain ⟨z2, e6, h9⟩ := Po.ofO' h8
    exact ⟨B, ρ3, σ, F3, y2, x2, z2, rel3, rs2.read s3 rel3 e4, rs3.read (Same.refl F3) rel3 e5, e6, h9 _ F3 H3 rel3 ((s1.trans s2).trans s3) rfl⟩
theorem chain3_out {α : Type} {p : R × Rho} {y : Out α} {f : α → Out (R × Rho)} (h : (y >>= f) = .ok p) : ∃ a, y = .ok a ∧ f a = .ok p := by
  cases y with
  | ok a => exact ⟨a, rfl, h⟩
  | err c pl r => cases h
  | bad => cases h
theorem ok_chain3 {o o' o'' : CmpOp} {a b d f : E} (Γ : Gm) (ρ : Rho) (p : R × Rho) (h : ev Γ (.chain3 o o' o'' a b d f) ρ = .ok p) : ∃ z, p.1 = .dat (.bl z) := by
  rw [ev] at h
  obtain ⟨⟨r1, ρ1⟩, _, h⟩ := chain3_out h
  obtain ⟨⟨r2, ρ2⟩, _, h⟩ := chain3_out h
  obtain ⟨_, _, h⟩ := chain3_out h
  obtain ⟨_, _, h⟩ := chain3_out h
  obtain ⟨z, _, h⟩ := chain3_out h
  cases z with
  | false => cases h; exact ⟨_, rfl⟩
  | true =>
    obtain ⟨⟨r3, ρ3⟩, _, h⟩ := chain3_out h
    obtain ⟨_, _, h⟩ := chain3_out h
    obtain ⟨_, _, h⟩ := chain3_out h
    obtain ⟨z, _, h⟩ := chain3_out h
    cases z with
    | false => cases h; exact ⟨_, rfl⟩
    | true =>
      obtain ⟨⟨r4, ρ4⟩, _, h⟩ := chain3_out h
      obtain ⟨_, _, h⟩ := chain3_out h
      obtain ⟨_, _, h⟩ := chain3_out h
      obtain ⟨z, _, h⟩ := chain3_out h
      cases h
      exact ⟨z, rfl⟩
theorem st_chain3 {a b d f : Expr} {a' b' d' f' : E} {o o' o'' : CmpOp} {p : Pos} (hm : cmpOk o'' f = true) (sa : SE U k c a a') (sb : SE U k c b b') (sd : SE U k c d d') (sf : SE U k c f f') : ST U k c (.Compare a [o, o', o''] [b, d, f] p) (.chain3 o o' o'' a' b' d' f') := by
  intro X W ok tk
  obtain ⟨ta, pa, ha⟩ := sa X W ok tk
  obtain ⟨tb, pb, hb⟩ := sb X W ok tk
  obtain ⟨td, pd, hd⟩ := sd X W ok tk
  obtain ⟨tf, pf, hf⟩ := sf X W ok tk
  exact ⟨_, pt_chain3 (cmp_uni (unitsOk ok) o) (cmp_uni (unitsOk ok) o') (cmp_uni (unitsOk ok) o'') pa pb pd pf (chain3_marks hm), tt_bool ok_chain3 (te_chain3 ok ha hb hd hf)⟩
/-- expressions whose test is their value's truth -/
def plainT : Expr → Bool
  | .UnaryOp .Not _ _ => false
  | .BoolOp _ _ _ => false
  | .IfExp _ _ _ _ => false
  | .Compare _ _ _ _ => false
  | _ => true
theorem plainT_ok {e : Expr} (h : plainT e = true) (env : Env) : ∀ whole, isTrue e env whole = (do let v ← whole; standAt e.pos; holding [v] (truthy v)) := by
  intro whole
  cases e with
  | UnaryOp o a p => cases o <;> first | rfl | cases h
  | BoolOp _ _ _ => cases h
  | IfExp _ _ _ _ => cases h
  | Compare _ _ _ _ => cases h
  | _ => rfl
theorem st_plain {e : Expr} {i : E} (h : plainT e = true) (s : SE U k c e i) : ST U k c e i := by
  intro X W ok tk
  obtain ⟨t, p, hh⟩ := s X W ok tk
  exact ⟨_, pt_truth p (plainT_ok h _), tt_of hh⟩
end
end PI
/-! Arguments, displays, subscripts, slices, calls. -/
namespace PI
open PySem L2
section
variable {U : Wd} {K : PySem.W.Frag} {k : Nat} {c : Cc} {X : Cx} {W : WX}

def noStar : Expr → Bool
  | .Starred _ _ => false
  | _ => true
def noSlice : Expr → Bool
  | .Slice _ _ _ _ => false
  | _ => true
theorem star_of {e : Expr} (h : noStar e = true) (es : List Expr) (env : Env) : starEach (e :: es) env = (false, eval e env) :: starEach es env := by
  cases e <;> first | rfl | cases h
theorem star_any : ∀ (es : List Expr) (env : Env) (pos : Pos), es.all noStar = true → (backTo pos (starEach es env)).any (·.1) = false
  | [], _, _, _ => rfl
  | e :: es, env, pos, h => by
    rw [List.all_cons, Bool.and_eq_true] at h
    rw [star_of h.1]
    have ih := star_any es env pos h.2
    simpa [backTo] using ih

/-! ### arguments -/
def TAok (U : Wd) (K : PySem.W.Frag) (k : Nat) (W : WX) (js : List E) (t : TA) : Prop := ∀ (B : Fx) (ρ : Rho) (σ : St) (F H : Hp) (Q : List V → Hp → Prop), Rel K B ρ σ F H →
  Po (evs (U.gm k) js ρ) (fun p => ∀ vs F' H', Rel K B p.2 σ F' H' → Same F F' → RpL K F' p.1 vs → Q vs H') (erE U K B σ W) → t σ H Q
def SA (U : Wd) (k : Nat) (c : Cc) (es : List Expr) (js : List E) : Prop := es.all noStar = true ∧ ∀ (X : Cx) (W : WX), XOk U k c X → Takes X W → ∃ t, PA X es t ∧ TAok U X.K k W js t
theorem sa_nil : SA U k c [] [] := ⟨rfl, fun X W ok tk => ⟨_, pa_nil, fun B ρ σ F H Q rel h => by
  rw [evs] at h
  exact h [] F H rel (Same.refl F) rfl⟩⟩
theorem sa_cons {e : Expr} {es : List Expr} {j : E} {js : List E} (hs : noStar e = true) (se : SE U k c e j) (sa : SA U k c es js) : SA U k c (e :: es) (j :: js) := by
  refine ⟨by rw [List.all_cons, hs, sa.1]; rfl, fun X W ok tk => ?_⟩
  obtain ⟨te, pe, he⟩ := se X W ok tk
  obtain ⟨ta, pa, ha⟩ := sa.2 X W ok tk
  refine ⟨_, pa_cons pe pa (star_of hs es X.env), fun B ρ σ F H Q rel h => ?_⟩
  rw [evs] at h
  refine one he rel h fun r ρ1 v F1 H1 rel1 s1 rs1 h1 => ?_
  obtain ⟨⟨d, ρ2⟩, e1, h2⟩ := Po.ofO' h1
  obtain ⟨F2, s2, rel2, rp2⟩ := rs1.give rel1 e1
  refine ha B _ σ F2 H1 _ rel2 (Po.mono (Po.bind h2) (fun q hq vs F' H' rel' sm rl => ?_) fun _ _ _ e => e)
  exact hq (v :: vs) F' H' rel' ((s1.trans s2).trans sm) ⟨v, vs, rfl, Rp.mono sm rp2, rl⟩
def RqL (K : PySem.W.Frag) (F H : Hp) : List D → List V → Prop
  | [], vs => vs = []
  | d :: ds, vs => ∃ v r, vs = v :: r ∧ Rq K F H d v ∧ RqL K F H ds r
def TRok (U : Wd) (K : PySem.W.Frag) (k : Nat) (W : WX) (js : List E) (t : TA) : Prop := ∀ (B : Fx) (ρ : Rho) (σ : St) (F H : Hp) (Q : List V → Hp → Prop), Rel K B ρ σ F H →
  Po (evRs (U.gm k) js ρ) (fun p => ∀ vs F' H', Rel K B p.2 σ F' H' → Same F F' → (∀ ds, p.1.mapM (fetch p.2) = some ds → RqL K F' H' ds vs) → Q vs H') (erE U K B σ W) → t σ H Q
def SR (U : Wd) (k : Nat) (c : Cc) (es : List Expr) (js : List E) : Prop := es.all noStar = true ∧ ∀ (X : Cx) (W : WX), XOk U k c X → Takes X W → ∃ t, PA X es t ∧ TRok U X.K k W js t
theorem sr_nil : SR U k c [] [] := ⟨rfl, fun X W ok tk => ⟨_, pa_nil, fun B ρ σ F H Q rel h => (show ∀ vs F' H', Rel X.K B ρ σ F' H' → Same F F' → (∀ ds, ([] : List R).mapM (fetch ρ) = some ds → RqL X.K F' H' ds vs) → Q vs H' by
  rw [evRs] at h
  exact h) [] F H rel (Same.refl F) (fun ds e => by
  simp at e
  subst e
  exact rfl)⟩⟩
theorem sr_cons {e : Expr} {es : List Expr} {j : E} {js : List E} (hs : noStar e = true) (se : SE U k c e j) (sa : SR U k c es js) : SR U k c (e :: es) (j :: js) := by
  refine ⟨by rw [List.all_cons, hs, sa.1]; rfl, fun X W ok tk => ?_⟩
  obtain ⟨te, pe, he⟩ := se X W ok tk
  obtain ⟨ta, pa, ha⟩ := sa.2 X W ok tk
  refine ⟨_, pa_cons pe pa (star_of hs es X.env), fun B ρ σ F H Q rel h => ?_⟩
  rw [evRs] at h
  refine one he rel h fun r ρ1 v F1 H1 rel1 s1 rs1 h1 => ?_
  refine ha B _ σ F1 H1 _ rel1 (Po.mono (Po.bind h1) (fun q hq vs F' H' rel' sm rl => ?_) fun _ _ _ e => e)
  refine hq (v :: vs) F' H' rel' (s1.trans sm) fun ds e => ?_
  have e' : List.mapM (fetch q.2) (r :: q.1) = some ds := e
  rw [List.mapM_cons] at e'
  cases e1 : fetch q.2 r with
  | none => simp [e1] at e'
  | some d =>
    cases e2 : List.mapM (fetch q.2) q.1 with
    | none => simp [e1, e2] at e'
    | some ds' =>
      simp [e1, e2] at e'
      subst e'
      exact ⟨v, vs, rfl, rs1.read sm rel' e1, rl ds' e2⟩

/-! ### displays -/
theorem s_tup {es : List Expr} {js : List E} {n : Nat} {p : Pos} (sa : SA U k c es js) : SE U k c (.Tuple es n p) (.tup js) := by
  intro X W ok tk
  obtain ⟨ta, pa, ha⟩ := sa.2 X W ok tk
  refine ⟨_, pe_tup pa, fun B ρ σ F H Q rel h => ?_⟩
  rw [ev] at h
  refine ha B ρ σ F H _ rel (Po.mono (Po.bind h) (fun q hq vs F' H' rel' sm rl => ?_) fun _ _ _ e => e)
  by_cases z : q.1.length ≤ sizeLine
  · have hq' : okE X.K B σ F Q (.dat (.tup q.1), q.2) := by
      have := hq
      simp only [z, if_true] at this
      exact this
    refine ⟨by rw [← rl.length]; exact z, fun p hp => ?_⟩
    have hf := rel'.newF hp
    exact hq' _ _ _ (rel'.put hp) (sm.trans (same_upd hf)) ⟨p, vs, rfl, upd_same, RpL.mono (same_upd hf) rl⟩
  · simp only [z, if_false] at hq
    exact hq.elim
theorem s_lst {es : List Expr} {js : List E} {p : Pos} (sa : SA U k c es js) : SE U k c (.List es p) (.lst js) := by
  intro X W ok tk
  obtain ⟨ta, pa, ha⟩ := sa.2 X W ok tk
  refine ⟨_, pe_lst pa, fun B ρ σ F H Q rel h => ?_⟩
  rw [ev] at h
  refine ha B ρ σ F H _ rel (Po.mono (Po.bind h) (fun q hq vs F' H' rel' sm rl => ?_) fun _ _ _ e => e)
  by_cases z : q.1.length ≤ sizeLine
  · have hq' : okE X.K B σ F Q (.fre (.lst q.1), q.2) := by
      have := hq
      simp only [z, if_true] at this
      exact this
    refine ⟨by rw [← rl.length]; exact z, fun p hp => ?_⟩
    exact hq' _ _ _ (rel'.lay hp) sm (Rs.ofL ⟨p, _, _, rfl, rfl, upd_same, rel'.newF hp, rel'.new0 hp, rl, rel'.notOwn hp⟩)
  · simp only [z, if_false] at hq
    exact hq.elim

/-! ### subscripts, slices -/
theorem plainIx_of {b : Expr} (h : noSlice b = true) : PlainIx b := fun o i => by
  cases b <;> first | rfl | cases h
theorem s_ix {a b : Expr} {a' b' : E} {p : Pos} (hb : noSlice b = true) (sa : SE U k c a a') (sb : SE U k c b b') : SE U k c (.Subscript a b p) (.ix a' b') := by
  intro X W ok tk
  obtain ⟨ta, pa, ha⟩ := sa X W ok tk
  obtain ⟨tb, pb, hb'⟩ := sb X W ok tk
  refine ⟨_, pe_ix (ix_uni (by have := unitsOk ok; omega)) pa pb (plainIx_of hb), fun B ρ σ F H Q rel h => ?_⟩
  rw [ev] at h
  refine one ha rel h fun r ρ1 v F1 H1 rel1 s1 rs1 h1 => one hb' rel1 h1 fun q ρ2 u F2 H2 rel2 s2 rs2 h2 => ?_
  obtain ⟨x, e1, h3⟩ := Po.ofO' h2
  obtain ⟨y, e2, h4⟩ := Po.ofO' h3
  obtain ⟨z, e3, h5⟩ := Po.ofO' h4
  exact ⟨B, ρ2, σ, F2, x, y, z, rel2, rs1.read s2 rel2 e1, rs2.read (Same.refl F2) rel2 e2, e3, fun v hv => h5 v F2 H2 rel2 (s1.trans s2) hv⟩
def TOok (U : Wd) (K : PySem.W.Frag) (k : Nat) (W : WX) (j : Option E) (t : TO) : Prop := ∀ (B : Fx) (ρ : Rho) (σ : St) (F H : Hp) (Q : Option Int → Hp → Prop), Rel K B ρ σ F H →
  Po (evO (U.gm k) j ρ) (fun p => ∀ F' H', Rel K B p.2 σ F' H' → Same F F' → Q p.1 H') (erE U K B σ W) → t σ H Q
def SO (U : Wd) (k : Nat) (c : Cc) (e : Option Expr) (j : Option E) : Prop := ∀ (X : Cx) (W : WX), XOk U k c X → Takes X W → ∃ t, PO X e t ∧ TOok U X.K k W j t
theorem so_none : SO U k c none none := fun X W ok tk => ⟨_, po_none, fun B ρ σ F H Q rel h => by
  rw [evO] at h
  exact h F H rel (Same.refl F)⟩
theorem so_some {e : Expr} {j : E} (se : SE U k c e j) : SO U k c (some e) (some j) := by
  intro X W ok tk
  obtain ⟨te, pe, he⟩ := se X W ok tk
  refine ⟨_, po_some pe, fun B ρ σ F H Q rel h => ?_⟩
  rw [evO] at h
  refine one he rel h fun r ρ1 v F1 H1 rel1 s1 rs1 h1 => ?_
  obtain ⟨x, e1, h2⟩ := Po.ofO' h1
  obtain ⟨i, e2, h3⟩ := Po.ofO' h2
  cases x with
  | int n =>
    cases e2
    exact ⟨i, rs1.read (Same.refl F1) rel1 e1, h3 F1 H1 rel1 s1⟩
  | _ => cases e2
theorem sl_uni : SlR X (fun x lo hi H Q => ∃ (B : Fx) (ρ : Rho) (σ : St) (F : Hp) (d : D) (z : R), Rel X.K B ρ σ F H ∧ Rq X.K F H d x ∧ slD d lo hi = some z ∧ ∀ v F' H', Rel X.K B ρ σ F' H' → Same F F' → Rs X.K B ρ σ F' H' z v → Q v H') := by
  intro pins s σ H x v vl vu lo hi sl Q I rx hs pl pu h
  obtain ⟨B, ρ, σ', F, d, z, rel, hx, g, q⟩ := h
  cases d with
  | lst l =>
    obtain ⟨p, vs, rfl, h1, h2⟩ := hx
    cases g
    exact sl_list pins s σ H _ v vl vu lo hi sl Q I rx hs pl pu ⟨p, vs, rfl, SqL.of h1, fun r hr => q _ F _ (rel.lay hr) (Same.refl F) (Rs.ofL ⟨r, _, _, rfl, rfl, upd_same, rel.newF hr, rel.new0 hr, RpL.cut h2 lo hi, rel.notOwn hr⟩)⟩
  | tup l =>
    obtain ⟨p, vs, rfl, h1, h2⟩ := hx
    cases g
    refine sl_tupA pins s σ H _ v vl vu lo hi sl Q I rx hs pl pu ⟨p, vs, rfl, Same.tupT rel.sub h1, fun w => ?_, fun _ r hr => ?_⟩
    · have e : cutL l lo hi = l := by
        rw [cut_eq, h2.length, w.1, w.2]
        simp [← h2.length]
      rw [e] at q
      exact q _ F H rel (Same.refl F) ⟨p, vs, rfl, h1, h2⟩
    · have hf := rel.newF hr
      exact q _ _ _ (rel.put hr) (same_upd hf) ⟨r, _, rfl, upd_same, RpL.mono (same_upd hf) (RpL.cut h2 lo hi)⟩
  | str a =>
    have hx' : x = V.str a := hx
    subst hx'
    simp only [slD] at g
    split at g
    · rename_i cc
      cases g
      refine sl_str pins s σ H _ v vl vu lo hi sl Q I rx hs pl pu ⟨a, rfl, cc, ?_⟩
      have e : cutS a lo hi = ⟨(cutL a.cps.toList lo hi).toArray⟩ := by
        rw [cut_eq]
        unfold cutS
        simp [PySem.Str.length]
      rw [e]
      exact q _ F H rel (Same.refl F) rfl
    · cases g
  | _ => cases g
theorem s_sl {a : Expr} {lo hi : Option Expr} {a' : E} {lo' hi' : Option E} {p p2 : Pos} (sa : SE U k c a a') (sl : SO U k c lo lo') (sh : SO U k c hi hi') : SE U k c (.Subscript a (.Slice lo hi none p2) p) (.sl a' lo' hi') := by
  intro X W ok tk
  obtain ⟨ta, pa, ha⟩ := sa X W ok tk
  obtain ⟨tl, pl, hl⟩ := sl X W ok tk
  obtain ⟨th, ph, hh⟩ := sh X W ok tk
  refine ⟨_, pe_slice sl_uni pa pl ph, fun B ρ σ F H Q rel h => ?_⟩
  rw [ev] at h
  refine one ha rel h fun r ρ1 v F1 H1 rel1 s1 rs1 h1 => ?_
  refine hl B _ σ F1 H1 _ rel1 (Po.mono (Po.bind h1) (fun q hq F2 H2 rel2 s2 => ?_) fun _ _ _ e => e)
  refine hh B _ σ F2 H2 _ rel2 (Po.mono (Po.bind hq) (fun q3 hq3 F3 H3 rel3 s3 => ?_) fun _ _ _ e => e)
  obtain ⟨x, e1, h4⟩ := Po.ofO' hq3
  obtain ⟨z, e2, h5⟩ := Po.ofO' h4
  exact ⟨B, q3.2, σ, F3, x, z, rel3, rs1.read (s2.trans s3) rel3 e1, e2, fun v F' H' r' s' rs' => h5 v F' H' r' (((s1.trans s2).trans s3).trans s') rs'⟩
end
end PI
/-! Calls of the text's own defs. -/
namespace PI
open PySem L2
section
variable {U : Wd} {K : PySem.W.Frag} {k : Nat} {c : Cc} {X : Cx} {W : WX} {B : Fx} {ρ : Rho} {σ : St} {F F' H H' : Hp}

theorem call_len {P : Pg} {f : Nat} {ds : List D} (h : callN P k f ds ≠ .bad) : ∃ G, P.fns[f]? = some G ∧ ds.length = G.par := by
  cases k with
  | zero => exact absurd rfl h
  | succ n =>
    unfold callN at h
    cases e : P.fns[f]? with
    | none =>
      rw [e] at h
      exact absurd rfl h
    | some G =>
      rw [e] at h
      refine ⟨G, rfl, ?_⟩
      by_cases z : ds.length = G.par
      · exact z
      · exact absurd (by simp [runFn, z]) h
/-- behind a call: what was stands -/
theorem Rel.call (r : Rel K B ρ σ F H) (s1 : Same F F') (s2 : Same F' H') (kt : Tp F' H') (kh : ∀ a o, H a = some o → H' a = some o) (kf : ∀ a o, H a = some o → F a = none → F' a = none) : Rel K B ρ σ F' H' where
  sub := s2
  len := r.len
  val := fun i d e => by
    obtain ⟨v, h1, h2⟩ := r.val i d e
    exact ⟨v, h1, Rp.mono s1 h2⟩
  own := fun i m d e => by
    obtain ⟨q, o, h1, h2, h3, h4, h6⟩ := r.own i m d e
    exact ⟨q, o, h1.mono s1, h2, kf _ _ h4 h3, kh _ _ h4, h6⟩
  lent := fun i d e => by
    obtain ⟨q, ds, vs, h1, h2, h3, h4, h5, h6, h7⟩ := r.lent i d e
    exact ⟨q, ds, vs, h1, h2, kf _ _ (r.keepH q _ h4 h6) h3, h4, h5, h6, RpL.mono s1 h7⟩
  lnk := r.lnk
  sep := r.sep
  keepH := fun a u q z => kh _ _ (r.keepH a u q z)
  keepF := fun a u q z => by
    by_cases e : B.pp = some a
    · obtain ⟨⟨vs, h⟩, _⟩ := r.pin a e
      exact kf _ _ h (r.keepF a u q z)
    · exact kf _ _ (r.keepH a u q e) (r.keepF a u q z)
  grow := r.grow.trans s1
  pin := fun q e => ⟨let ⟨vs, x⟩ := (r.pin q e).1; ⟨vs, kh _ _ x⟩, (r.pin q e).2⟩
  tup := kt
/-- .. where the list at a place has been changed -/
theorem Rel.callIo (r : Rel K B ρ σ F H) {i m : Nat} {d l : D} {p : Addr} {ws : HO} (hi : ρ[i]? = some (.own m d)) (hp : σ[i]? = some (some (.ref p))) (hw : H' p = some ws) (hl : Ob K F' l ws) (hpp : B.pp = some p → ∃ vs, ws = .lst vs)
    (s1 : Same F F') (s2 : Same F' H') (kt : Tp F' H') (kh : ∀ a o, H a = some o → a ≠ p → H' a = some o) (kf : ∀ a o, H a = some o → F a = none → F' a = none) : Rel K B (ρ.set i (.own m l)) σ F' H' := by
  have hlt : i < ρ.length := (List.getElem?_eq_some_iff.mp hi).1
  obtain ⟨p', o0, g1, g2, g3, g4, g6, g7⟩ := r.own i m d hi
  have ep : p' = p := by
    rw [hp] at g2
    cases g2
    rfl
  subst ep
  have back : ∀ {j : Nat} {s : Sl}, (ρ.set i (.own m l))[j]? = some s → (j = i ∧ s = .own m l) ∨ (j ≠ i ∧ ρ[j]? = some s) := fun {j s} e => by
    by_cases z : i = j
    · subst z
      rw [List.getElem?_set_self hlt] at e
      exact .inl ⟨rfl, (Option.some.inj e).symm⟩
    · rw [List.getElem?_set_ne z] at e
      exact .inr ⟨fun y => z y.symm, e⟩
  have same : ∀ {j : Nat} {m' : Nat} {d' : D}, (ρ.set i (.own m l))[j]? = some (Sl.own m' d') → ∃ d2, ρ[j]? = some (Sl.own m' d2) := fun {j m' d'} e => by
    rcases back e with ⟨rfl, e2⟩ | ⟨_, e2⟩
    · cases e2
      exact ⟨d, hi⟩
    · exact ⟨d', e2⟩
  refine ⟨s2, by rw [List.length_set]; exact r.len, fun j d' e => ?_, fun j m' d' e => ?_, fun j d' e => ?_, r.lnk, fun j j2 m1 d1 m2 d2 q e1 e2 e3 e4 => ?_, fun a u q z => ?_, fun a u q z => ?_, r.grow.trans s1, fun q e => ?_, kt⟩
  · rcases back e with ⟨_, e2⟩ | ⟨_, e2⟩
    · cases e2
    · obtain ⟨v, h1, h2⟩ := r.val j d' e2
      exact ⟨v, h1, Rp.mono s1 h2⟩
  · rcases back e with ⟨rfl, e2⟩ | ⟨ne, e2⟩
    · cases e2
      exact ⟨p', ws, hl, hp, kf _ _ g4 g3, hw, g6, g7⟩
    · obtain ⟨q, o', h1, h2, h3, h4, h6⟩ := r.own j m' d' e2
      have nq : q ≠ p' := fun z => ne (r.sep j i _ _ _ _ p' e2 hi (by rw [h2, z]) hp)
      exact ⟨q, o', h1.mono s1, h2, kf _ _ h4 h3, kh _ _ h4 nq, h6⟩
  · rcases back e with ⟨_, e2⟩ | ⟨ne, e2⟩
    · cases e2
    · obtain ⟨q, ds', vs', h1, h2, h3, h4, h5, h6, h7⟩ := r.lent j d' e2
      exact ⟨q, ds', vs', h1, h2, kf _ _ (r.keepH q _ h4 h6) h3, h4, h5, h6, RpL.mono s1 h7⟩
  · obtain ⟨x1, f1⟩ := same e1
    obtain ⟨x2, f2⟩ := same e2
    exact r.sep j j2 _ _ _ _ q f1 f2 e3 e4
  · have h := r.keepH a u q z
    refine kh _ _ h fun y => ?_
    subst y
    by_cases m1 : m = 1
    · exact z (g6 m1)
    · rw [g7 m1] at q
      cases q
  · by_cases e : B.pp = some a
    · obtain ⟨⟨vs', h⟩, _⟩ := r.pin a e
      exact kf _ _ h (r.keepF a u q z)
    · exact kf _ _ (r.keepH a u q e) (r.keepF a u q z)
  · refine ⟨?_, (r.pin q e).2⟩
    by_cases y : q = p'
    · obtain ⟨vs', rfl⟩ := hpp (by rw [← y]; exact e)
      exact ⟨vs', by rw [y]; exact hw⟩
    · obtain ⟨vs', h⟩ := (r.pin q e).1
      exact ⟨vs', kh _ _ h y⟩

theorem run_g {f : Addr} {fd : FuncData} {ps : List Str} {sp : Sp} {pins : List (Addr × Obj)} {s : Shared} {Q : VK} {us : List Value} {vs : List V} (G : FnG X.prog X.w X.K X.mg X.base k f fd ps sp) (hr : Room k X.A) (hg : X.A.guards = some [])
    (hb : Binds X.K fd ps []) (tk : Takes X W) (I : L2.Inv X pins σ H s) (r : Vals vs us) (h : sp vs H Q (WE W σ)) : wpAny (model X.prog X.w) X.A (call (.ref f) us) (EP X pins σ Q) X.xe s := by
  have hl : us.length = ps.length := r.length.symm.trans (G.len _ _ _ _ h)
  have hb' : BindsTo s fd ⟨us, []⟩ (ps.zip us) := by
    have z := hb s us I.kIn (by simpa using hl)
    simpa using z
  refine wpAny_call (codeAny_mono (G.run X.A X.stack s H ⟨us, []⟩ us vs Q (WE W σ) hr hg I.env0 hb' r h) fun res s' hq => ?_)
  match res, hq with
  | .error e, hq => exact passAt tk σ pins H s e s' I hq
  | .ok (.ret u), hq => exact I.after hq
def tGo (sp : Sp) (W : WX) (t : TA) : TE := fun σ H Q => t σ H fun vs H1 => sp vs H1 Q (WE W σ)
theorem pe_go {f : Addr} {fd : FuncData} {ps : List Str} {sp : Sp} {x : Str} {e : Expr} {es : List Expr} {t : TA} {p pos : Pos} (G : FnG X.prog X.w X.K X.mg X.base k f fd ps sp) (hr : Room k X.A) (hgd : X.A.guards = some [])
    (hg : Gl X x) (hm : X.mg x = some (.ref f)) (hk : PySem.W.keepIn X.K (.ref f) = true) (hb : Binds X.K fd ps []) (tk : Takes X W) (hdb : (x == ("__debug__" : Str)) = false) (hs : (e :: es).all noStar = true) (ha : PA X (e :: es) t) :
    PE X (.Call (.Name x p) (e :: es) [] pos) (tGo sp W t) := by
  refine ⟨fun pins s σ H Q I h => wpAny_Call_Name_kw (ld_glob I hg hm ?_ hdb)⟩
  rw [List.all_cons, Bool.and_eq_true] at hs
  exact PySem.W.callWith_K (h₀ := X.base) I.ok.mod.kin hk (thn (ha.run pos pins s σ H _ I h) fun us s1 ⟨vs, H1, I1, rv, q⟩ => ⟨I1.kIn, run_g G hr hgd hb tk I1 rv q⟩) (star_of hs.1 es X.env) (star_any es X.env pos hs.2)
theorem pe_go0 {f : Addr} {fd : FuncData} {ps : List Str} {sp : Sp} {x : Str} {p pos : Pos} (G : FnG X.prog X.w X.K X.mg X.base k f fd ps sp) (hr : Room k X.A) (hgd : X.A.guards = some [])
    (hg : Gl X x) (hm : X.mg x = some (.ref f)) (hk : PySem.W.keepIn X.K (.ref f) = true) (hb : Binds X.K fd ps []) (tk : Takes X W) (hdb : (x == ("__debug__" : Str)) = false) :
    PE X (.Call (.Name x p) [] [] pos) (tGo sp W tNil) := by
  refine ⟨fun pins s σ H Q I h => wpAny_Call_Name_kw (ld_glob I hg hm ?_ hdb)⟩
  exact PySem.W.callWith_K0 (K := X.K) I.kIn hk (run_g G hr hgd hb tk I .nil h)

/-- what a call hands back -/
theorem call_back {ds : List D} {vs : List V} {i : Nat} {B : Fx} {ρ : Rho} {σ : St} {F0 F H : Hp} {Q : VK} (ok : XOk U k c X) (tk : Takes X W) (rel : Rel X.K B ρ σ F H) (s0 : Same F0 F) (hv : RpL X.K F ds vs) {x : Str} {b : Bool} (hx : fnIx x U.nm.fns = some (i, b)) (hb : b = false)
    (h : Po (callOut ρ (callN U.pg k i ds)) (okE X.K B σ F0 Q) (erE U X.K B σ W)) : spI U k i vs H Q (WE W σ) := by
  obtain ⟨h1, h2, h3, G, hG, hio, hpar⟩ := ok.ok.fmg x i b hx
  have nb : callN U.pg k i ds ≠ .bad := fun e => by
    rw [e] at h
    exact h
  obtain ⟨G', hG', hl⟩ := call_len nb
  rw [hG] at hG'
  cases hG'
  have hK := ok.K
  refine ⟨F, ds, none, rel.sub, rel.tup, by rw [← hv.length, hl, hpar], ?_, ?_⟩
  · rw [hG]
    obtain ⟨g1, g2, g3, g4⟩ := G
    have e : g3 = false := hio.trans hb
    subst e
    exact ⟨rfl, by rw [← hK]; exact hv⟩
  · cases e : callN U.pg k i ds with
    | bad => exact absurd e nb
    | err cc pl =>
      rw [e] at h
      intro F' H' s1 s2 kt kh kf
      exact h F' H' (rel.call s1 s2 kt (fun a o q => kh a o q (by simp)) kf)
    | ok d fr io =>
      rw [e] at h
      intro v F' H' s1 s2 kt kh kf _ hr
      have rel' := rel.call s1 s2 kt (fun a o q => kh a o q (by simp)) kf
      refine h v F' H' rel' (s0.trans s1) ?_
      cases fr with
      | false =>
        rw [if_neg (by simp)] at hr
        rw [← hK] at hr
        exact hr
      | true =>
        rw [if_pos rfl] at hr
        obtain ⟨p, o, e1, e2, e3, e4, e5⟩ := hr
        rw [← hK] at e1
        exact ⟨p, o, e1, e2, e5, e4, rel.new0 e3, rel.notOwn e3⟩
theorem fnG_at (ok : XOk U k c X) {x : Str} {i : Nat} {b : Bool} (hx : fnIx x U.nm.fns = some (i, b)) : FnG X.prog X.w X.K X.mg X.base k (U.fa i) (U.fd i) (U.ps i) (spI U k i) := by
  rw [ok.P, ok.w, ok.K, ok.mg, ok.base]
  exact ok.calls x i b hx
theorem fn_get {x : Str} {i : Nat} {b : Bool} (h : c.fn x = some (i, b)) (ok : XOk U k c X) : fnIx x U.nm.fns = some (i, b) ∧ Gl X x ∧ (x == ("__debug__" : Str)) = false := by
  unfold Cc.fn at h
  split at h
  · rename_i e
    rw [Bool.and_eq_true] at e
    rw [ok.nm] at h
    exact ⟨h, gbl_of e.1 ok, (okName_dbg e.2).1⟩
  · cases h
theorem s_call {x : Str} {i : Nat} {es : List Expr} {js : List E} {p pos : Pos} (hf : c.fn x = some (i, false)) (sa : SA U k c es js) (hn : es = [] → js = []) : SE U k c (.Call (.Name x p) es [] pos) (.call i js) := by
  intro X W ok tk
  obtain ⟨hx, hg, hdb⟩ := fn_get hf ok
  obtain ⟨h1, h2, h3, _⟩ := ok.ok.fmg x i false hx
  rw [← ok.mg] at h1
  rw [← ok.K] at h2 h3
  have G := fnG_at ok hx
  cases es with
  | nil =>
    obtain rfl := hn rfl
    refine ⟨_, pe_go0 G ok.room ok.grd hg h1 h2 h3 tk hdb, fun B ρ σ F H Q rel h => ?_⟩
    rw [ev, evs] at h
    exact call_back ok tk rel (Same.refl F) (show RpL X.K F [] [] from rfl) hx rfl h
  | cons e r =>
    obtain ⟨ta, pa, ha⟩ := sa.2 X W ok tk
    refine ⟨_, pe_go G ok.room ok.grd hg h1 h2 h3 tk hdb sa.1 pa, fun B ρ σ F H Q rel h => ?_⟩
    rw [ev] at h
    exact ha B ρ σ F H _ rel (Po.mono (Po.bind h) (fun q hq vs F' H' rel' sm rl => call_back ok tk rel' sm rl hx rfl hq) fun _ _ _ e => e)
theorem s_callio {x y : Str} {i j : Nat} {es : List Expr} {js : List E} {p p2 pos : Pos} (hf : c.fn x = some (i, true)) (hy : c.slot y = some j) (sa : SA U k c es js) : SE U k c (.Call (.Name x p) (.Name y p2 :: es) [] pos) (.callio i j js) := by
  intro X W ok tk
  obtain ⟨hx, hg, hdb⟩ := fn_get hf ok
  obtain ⟨h1, h2, h3, G0, hG, hio, hpar⟩ := ok.ok.fmg x i true hx
  rw [← ok.mg] at h1
  rw [← ok.K] at h2 h3
  obtain ⟨y1, y2, y3⟩ := slot_get hy ok
  obtain ⟨d1, d2, _⟩ := okName_dbg y3
  obtain ⟨ta, pa, ha⟩ := sa.2 X W ok tk
  have G := fnG_at ok hx
  refine ⟨_, pe_go G ok.room ok.grd hg h1 h2 h3 tk hdb (by rw [List.all_cons, sa.1]; rfl) (pa_cons (pe_var y1 y2 d1 d2) pa (star_of rfl es X.env)), fun B ρ σ F H Q rel h => ?_⟩
  rw [ev] at h
  have hK := ok.K
  obtain ⟨r0, er, h⟩ := Po.ofO' h
  obtain ⟨v, hv⟩ : ∃ v, σ[j]? = some (some v) := by
    unfold rdVar at er
    cases e : ρ[j]? with
    | none => simp [e] at er
    | some s =>
      cases s with
      | no => simp [e] at er
      | val d =>
        obtain ⟨v, g, _⟩ := rel.val j d e
        exact ⟨v, g⟩
      | own m d =>
        obtain ⟨q, _, _, g, _⟩ := rel.own j m d e
        exact ⟨_, g⟩
      | lent d =>
        obtain ⟨q, _, _, _, g, _⟩ := rel.lent j d e
        exact ⟨_, g⟩
  refine ⟨v, hv, ha B ρ σ F H _ rel (Po.mono (Po.bind h) (fun q hq vs F' H' rel' sm rl => ?_) fun _ _ _ e => e)⟩
  obtain ⟨ds, ρ1⟩ := q
  cases e : ρ1[j]? with
  | none =>
    simp [e] at hq
    exact hq.elim
  | some s =>
    cases s with
    | no =>
      simp [e] at hq
      exact hq.elim
    | val d =>
      simp [e] at hq
      exact hq.elim
    | lent d =>
      simp [e] at hq
      exact hq.elim
    | own m d =>
      match d with
      | .non | .bl _ | .int _ | .str _ | .tup _ | .dic _ _ _ | .gl _ | .scr _ =>
        simp [e] at hq
        exact hq.elim
      | .lst l =>
      simp only [e] at hq
      by_cases hm : m ≤ 1
      · simp only [hm, if_true] at hq
        obtain ⟨p, ws, e2, e3, e4, e5, e6, e7⟩ := rel'.ownL e
        have ev : v = .ref p := by
          rw [hv] at e2
          cases e2
          rfl
        subst ev
        have nb : callN U.pg k i (.lst l :: ds) ≠ .bad := fun z => by
          have hq' : Po (callOutIo ρ1 j m (callN U.pg k i (.lst l :: ds))) (okE X.K B σ F Q) (erE U X.K B σ W) := hq
          rw [z] at hq'
          exact hq'
        obtain ⟨G', hG', hl⟩ := call_len nb
        rw [hG] at hG'
        cases hG'
        refine ⟨F', .lst l :: ds, some p, rel'.sub, rel'.tup, ?_, ?_, ?_⟩
        · rw [hpar, ← hl, List.length_cons, List.length_cons, rl.length]
        · rw [hG]
          obtain ⟨g1, g2, g3, g4⟩ := G0
          have z : g3 = true := hio
          subst z
          exact ⟨p, ds, l, ws, vs, rfl, rfl, e3, e4, rfl, by rw [← hK]; exact e5, by rw [← hK]; exact rl⟩
        · have hq' : Po (callOutIo ρ1 j m (callN U.pg k i (.lst l :: ds))) (okE X.K B σ F Q) (erE U X.K B σ W) := hq
          cases z : callN U.pg k i (.lst l :: ds) with
          | bad => exact absurd z nb
          | err cc pl =>
            rw [z] at hq'
            exact hq'.elim
          | ok d fr io =>
            rw [z] at hq'
            intro w F2 H2 s1 s2 kt kh kf hio2 hr
            obtain ⟨l2, ws2, f1, f2, f3⟩ := hio2 p rfl
            subst f1
            have rel2 := rel'.callIo (l := .lst l2) e e2 f2 (by rw [hK]; exact ⟨ws2, rfl, f3⟩) (fun _ => ⟨ws2, rfl⟩) s1 s2 kt (fun a o q ne => kh a o q (fun y => ne (Option.some.inj y).symm)) kf
            refine hq' w F2 H2 rel2 (sm.trans s1) ?_
            cases fr with
            | false =>
              rw [if_neg (by simp)] at hr
              rw [← hK] at hr
              exact hr
            | true =>
              rw [if_pos rfl] at hr
              obtain ⟨p3, o3, g1, g2, g3, g4, g5⟩ := hr
              rw [← hK] at g1
              refine ⟨p3, o3, g1, g2, g5, g4, rel'.new0 g3, fun i' m' d' q z => ?_⟩
              by_cases y : j = i'
              · subst y
                rw [e2] at z
                cases z
                rw [g3] at e4
                cases e4
              · rw [List.getElem?_set_ne y] at q
                exact rel'.notOwn g3 i' m' d' q z
      · simp only [hm, if_false] at hq
        exact hq.elim
end
end PI
/-! Built-ins. -/
namespace PI
open PySem L2
section
variable {X : Cx}
/-- the universal reading of a built-in's call -/
def rBlt (X : Cx) (b : B) : List V → Hp → VK → Prop := fun xs H Q => ∃ (B : Fx) (ρ : Rho) (σ : St) (F : Hp) (ds : List D) (z : R), Rel X.K B ρ σ F H ∧ RqL X.K F H ds xs ∧ bltD b ds = some z ∧
  ∀ v F' H', Rel X.K B ρ σ F' H' → Same F F' → Rs X.K B ρ σ F' H' z v → Q v H'
theorem rq1 {K : PySem.W.Frag} {F H : Hp} {d : D} {xs : List V} (h : RqL K F H [d] xs) : ∃ x, xs = [x] ∧ Rq K F H d x := by
  obtain ⟨v, r, e, h1, h2⟩ := h
  have h2' : r = [] := h2
  exact ⟨v, by rw [e, h2'], h1⟩
theorem rq2 {K : PySem.W.Frag} {F H : Hp} {d e : D} {xs : List V} (h : RqL K F H [d, e] xs) : ∃ x y, xs = [x, y] ∧ Rq K F H d x ∧ Rq K F H e y := by
  obtain ⟨v, r, e, h1, h2⟩ := h
  obtain ⟨y, e2, h3⟩ := rq1 h2
  exact ⟨v, y, by rw [e, e2], h1, h3⟩
theorem keysLen {α β : Type} {f : α → Option β} : ∀ {l : List α} {r : List β}, l.mapM f = some r → r.length = l.length
  | [], r, h => by
    simp at h
    subst h
    rfl
  | a :: l, r, h => by
    rw [List.mapM_cons] at h
    cases e1 : f a with
    | none => simp [e1] at h
    | some b =>
      cases e2 : l.mapM f with
      | none => simp [e1, e2] at h
      | some r' =>
        simp [e1, e2] at h
        subst h
        simp [keysLen e2]
/-- one list of ints -/
theorem blt_len : CallR X (.builtin "len") (rBlt X .len) := by
  intro pins s σ H xs us Q I r h
  obtain ⟨B, ρ, σ', F, ds, z, rel, hx, g, q⟩ := h
  match ds, g with
  | [.str a], g =>
    obtain ⟨x, rfl, hz⟩ := rq1 hx
    have hx' : x = V.str a := hz
    subst hx'
    simp only [bltD] at g
    split at g
    · rename_i c
      cases g
      exact call_len_str pins s σ H _ us Q I r ⟨a, rfl, c, q _ F H rel (Same.refl F) rfl⟩
    · cases g
  | [.lst l], g =>
    obtain ⟨x, rfl, p, vs, rfl, h1, h2⟩ := rq1 hx
    cases g
    exact call_len_seq pins s σ H _ us Q I r ⟨p, vs, rfl, .inl (SqL.of h1), by rw [← h2.length]; exact q _ F H rel (Same.refl F) rfl⟩
  | [.tup l], g =>
    obtain ⟨x, rfl, p, vs, rfl, h1, h2⟩ := rq1 hx
    cases g
    exact call_len_seq pins s σ H _ us Q I r ⟨p, vs, rfl, .inr (Same.tupT rel.sub h1), by rw [← h2.length]; exact q _ F H rel (Same.refl F) rfl⟩
  | [.dic t ks l], g =>
    obtain ⟨x, rfl, p, vs, rfl, ⟨o, h1, h2, h3⟩, h4⟩ := rq1 hx
    cases g
    have q' := q (.int ((ks.length : Nat) : Int)) F H rel (Same.refl F) rfl
    cases t with
    | false =>
      obtain ⟨js, e1, rfl⟩ := h3
      have hl : (js.zip vs).length = ks.length := by rw [List.length_zip, ← h2, keysLen e1, Nat.min_self]
      obtain ⟨u, rfl, rx⟩ := vals1 r
      obtain rfl : u = Value.ref p := rx
      exact d_len I (.inl h1) fun t s' I' => ⟨.int (((js.zip vs).length : Nat) : Int), H, I', ⟨_, rfl⟩, by rw [hl]; exact q'⟩
    | true =>
      obtain ⟨js, e1, rfl⟩ := h3
      have hl : (js.zip vs).length = ks.length := by rw [List.length_zip, ← h2, keysLen e1, Nat.min_self]
      exact call_len_dT pins s σ H _ us Q I r ⟨p, js.zip vs, rfl, h1, by rw [hl]; exact q'⟩
theorem blt_sum (hc : X.calm = true) : CallR X (.builtin "sum") (rBlt X .sum) := by
  intro pins s σ H xs us Q I r h
  obtain ⟨B, ρ, σ', F, ds, z, rel, hx, g, q⟩ := h
  match ds, g with
  | [.lst l], g =>
    obtain ⟨x, rfl, p, vs, rfl, h1, h2⟩ := rq1 hx
    obtain ⟨ns, e, rfl⟩ := map_some (show (ints? l).map (fun ns => R.dat (.int ns.sum)) = some z from g)
    rw [RpL.ints e h2] at h1
    exact cr_sum hc pins s σ H _ us Q I r ⟨p, ns, rfl, SqL.of h1, q _ F H rel (Same.refl F) rfl⟩
theorem blt_all (hc : X.calm = true) : CallR X (.builtin "all") (rBlt X .all) := by
  intro pins s σ H xs us Q I r h
  obtain ⟨B, ρ, σ', F, ds, z, rel, hx, g, q⟩ := h
  match ds, g with
  | [.lst l], g =>
    obtain ⟨x, rfl, p, vs, rfl, h1, h2⟩ := rq1 hx
    obtain ⟨ns, e, rfl⟩ := map_some (show (bls? l).map (fun ns => R.dat (.bl (ns.all id))) = some z from g)
    rw [RpL.bls e h2] at h1
    exact cr_all hc pins s σ H _ us Q I r ⟨p, ns, rfl, SqL.of h1, q _ F H rel (Same.refl F) rfl⟩
theorem blt_any (hc : X.calm = true) : CallR X (.builtin "any") (rBlt X .any) := by
  intro pins s σ H xs us Q I r h
  obtain ⟨B, ρ, σ', F, ds, z, rel, hx, g, q⟩ := h
  match ds, g with
  | [.lst l], g =>
    obtain ⟨x, rfl, p, vs, rfl, h1, h2⟩ := rq1 hx
    obtain ⟨ns, e, rfl⟩ := map_some (show (bls? l).map (fun ns => R.dat (.bl (ns.any id))) = some z from g)
    rw [RpL.bls e h2] at h1
    exact cr_any hc pins s σ H _ us Q I r ⟨p, ns, rfl, SqL.of h1, q _ F H rel (Same.refl F) rfl⟩
theorem blt_tuple : CallR X (.type "tuple") (rBlt X .tuple) := by
  intro pins s σ H xs us Q I r h
  obtain ⟨B, ρ, σ', F, ds, z, rel, hx, g, q⟩ := h
  match ds, g with
  | [.lst l], g =>
    obtain ⟨x, rfl, p, vs, rfl, h1, h2⟩ := rq1 hx
    cases g
    refine call_tuple_of pins s σ H _ us Q I r ⟨p, vs, rfl, .inl ⟨SqL.of h1, fun a ha => ?_⟩⟩
    have hf := rel.newF ha
    exact q _ _ _ (rel.put ha) (same_upd hf) ⟨a, vs, rfl, upd_same, RpL.mono (same_upd hf) h2⟩
  | [.tup l], g =>
    obtain ⟨x, rfl, p, vs, rfl, h1, h2⟩ := rq1 hx
    cases g
    exact call_tuple_of pins s σ H _ us Q I r ⟨p, vs, rfl, .inr ⟨Same.tupT rel.sub h1, q _ F H rel (Same.refl F) ⟨p, vs, rfl, h1, h2⟩⟩⟩
theorem blt_list : CallR X (.type "list") (rBlt X .list) := by
  intro pins s σ H xs us Q I r h
  obtain ⟨B, ρ, σ', F, ds, z, rel, hx, g, q⟩ := h
  match ds, g with
  | [.lst l], g =>
    obtain ⟨x, rfl, p, vs, rfl, h1, h2⟩ := rq1 hx
    cases g
    exact call_list_of pins s σ H _ us Q I r ⟨p, vs, rfl, .inl (SqL.of h1), fun a ha => q _ F _ (rel.lay ha) (Same.refl F) (Rs.ofL ⟨a, _, _, rfl, rfl, upd_same, rel.newF ha, rel.new0 ha, h2, rel.notOwn ha⟩)⟩
  | [.tup l], g =>
    obtain ⟨x, rfl, p, vs, rfl, h1, h2⟩ := rq1 hx
    cases g
    exact call_list_of pins s σ H _ us Q I r ⟨p, vs, rfl, .inr (Same.tupT rel.sub h1), fun a ha => q _ F _ (rel.lay ha) (Same.refl F) (Rs.ofL ⟨a, _, _, rfl, rfl, upd_same, rel.newF ha, rel.new0 ha, h2, rel.notOwn ha⟩)⟩
theorem insI_perm (x : Int) : ∀ l : List Int, (insI x l).Perm (x :: l)
  | [] => List.Perm.refl _
  | y :: ys => by
    unfold insI
    split
    · exact List.Perm.refl _
    · exact ((insI_perm x ys).cons y).trans (List.Perm.swap x y ys)
theorem srtI_perm : ∀ l : List Int, (srtI l).Perm l
  | [] => List.Perm.refl _
  | x :: xs => (insI_perm x _).trans ((srtI_perm xs).cons x)
theorem insI_sorted {x : Int} : ∀ {l : List Int}, l.Pairwise (· ≤ ·) → (insI x l).Pairwise (· ≤ ·)
  | [], _ => by simp [insI]
  | y :: ys, h => by
    unfold insI
    rw [List.pairwise_cons] at h
    split
    · rename_i c
      rw [List.pairwise_cons]
      refine ⟨fun z hz => ?_, by rw [List.pairwise_cons]; exact h⟩
      rcases List.mem_cons.mp hz with e | e
      · rw [e]
        exact c
      · exact Int.le_trans c (h.1 z e)
    · rename_i c
      rw [List.pairwise_cons]
      refine ⟨fun z hz => ?_, insI_sorted h.2⟩
      rcases List.mem_cons.mp ((insI_perm x ys).mem_iff.mp hz) with e | e
      · rw [e]
        omega
      · exact h.1 z e
theorem srtI_sorted : ∀ l : List Int, (srtI l).Pairwise (· ≤ ·)
  | [] => List.Pairwise.nil
  | x :: xs => insI_sorted (srtI_sorted xs)
theorem srt_same {a b : List Int} (p : a.Perm b) (h1 : a.Pairwise (· ≤ ·)) : a = srtI b :=
  (p.trans (srtI_perm b).symm).eq_of_pairwise (fun x y _ _ q1 q2 => Int.le_antisymm q1 q2) h1 (srtI_sorted b)
theorem tupsI_refs {K : PySem.W.Frag} {F H : Hp} (sm : Same F H) : ∀ {l : List D} {nss : List (List Int)} {vs : List V}, tupsI? l = some nss → RpL K F l vs → ∃ bs : List Addr, vs = bs.map V.ref ∧ Paired (TIn H) bs nss ∧ ∀ ns ∈ nss, ns ≠ []
  | [], nss, vs, e, h => by
    cases e
    have h' : vs = [] := h
    subst h'
    exact ⟨[], rfl, .nil, fun _ h => by cases h⟩
  | .tup xs :: r, nss, vs, e, h => by
    unfold tupsI? at e
    split at e
    · rename_i n ns hi
      obtain ⟨l, e1, rfl⟩ := map_some e
      obtain ⟨v, w, rfl, ⟨a, us, rfl, ha, hu⟩, h2⟩ := h
      obtain ⟨bs, rfl, P, hn⟩ := tupsI_refs sm e1 h2
      rw [RpL.ints hi hu] at ha
      refine ⟨a :: bs, rfl, .cons (sm _ _ ha) P, fun ms hm => ?_⟩
      rcases List.mem_cons.mp hm with rfl | hm
      · simp
      · exact hn ms hm
    · cases e
  | .non :: _, _, _, e, _ | .bl _ :: _, _, _, e, _ | .int _ :: _, _, _, e, _ | .str _ :: _, _, _, e, _ | .lst _ :: _, _, _, e, _ | .dic _ _ _ :: _, _, _, e, _ | .gl _ :: _, _, _, e, _ | .scr _ :: _, _, _, e, _ => by cases e
theorem tupsI_back {K : PySem.W.Frag} {F H : Hp} (tp : Tp F H) : ∀ {nss : List (List Int)} {bs : List Addr}, Paired (TIn H) bs nss → RpL K F (nss.map tupI) (bs.map V.ref) := by
  intro nss bs P
  induction P with
  | nil => exact rfl
  | cons h _ ih => exact ⟨_, _, rfl, ⟨_, _, rfl, tp _ _ h, RpL.ofInts _⟩, ih⟩
theorem keyD_ints : ∀ {l : List D} {ns : List Int}, ints? l = some ns → l.mapM keyD = some (ns.map Sum.inl)
  | [], ns, e => by
    cases e
    rfl
  | .int i :: r, ns, e => by
    obtain ⟨l, e1, rfl⟩ := map_some (show (ints? r).map (i :: ·) = some ns from e)
    simp [keyD, keyD_ints e1]
  | .non :: _, _, e | .bl _ :: _, _, e | .str _ :: _, _, e | .tup _ :: _, _, e | .lst _ :: _, _, e | .dic _ _ _ :: _, _, e | .gl _ :: _, _, e | .scr _ :: _, _, e => by cases e
theorem keysD_tups : ∀ {l : List D} {nss : List (List Int)}, tupsI? l = some nss → l.mapM keysD = some (nss.map fun ns => ns.map Sum.inl) ∧ ∀ ns ∈ nss, ns ≠ []
  | [], ns, e => by
    cases e
    exact ⟨rfl, fun _ h => by cases h⟩
  | .tup xs :: r, nss, e => by
    unfold tupsI? at e
    split at e
    · rename_i n ns hi
      obtain ⟨l, e1, rfl⟩ := map_some e
      obtain ⟨h1, h2⟩ := keysD_tups e1
      refine ⟨?_, fun ms hm => ?_⟩
      · rw [List.mapM_cons, h1, show keysD (.tup xs) = xs.mapM keyD from rfl, keyD_ints hi]
        rfl
      · rcases List.mem_cons.mp hm with rfl | hm
        · simp
        · exact h2 ms hm
    · cases e
  | .non :: _, _, e | .bl _ :: _, _, e | .int _ :: _, _, e | .str _ :: _, _, e | .lst _ :: _, _, e | .dic _ _ _ :: _, _, e | .gl _ :: _, _, e | .scr _ :: _, _, e => by cases e
theorem zip_fst {α β : Type} {a : List α} {b : List β} (h : a.length = b.length) : (a.zip b).map (·.1) = a := by
  rw [List.map_fst_zip]
  omega
theorem mapMlen {α β : Type} {f : α → Option β} : ∀ {l : List α} {r : List β}, l.mapM f = some r → r.length = l.length
  | [], r, e => by
    cases e
    rfl
  | x :: xs, r, e => by
    rw [List.mapM_cons] at e
    cases h1 : f x with
    | none =>
      rw [h1] at e
      cases e
    | some y =>
      rw [h1] at e
      cases h2 : xs.mapM f with
      | none =>
        rw [h2] at e
        cases e
      | some ys =>
        rw [h2] at e
        cases e
        rw [List.length_cons, List.length_cons, mapMlen h2]
theorem blt_sorted (hcalm : X.calm = true) : CallR X (.builtin "sorted") (rBlt X .sorted) := by
  intro pins s σ H xs us Q I r h
  obtain ⟨B, ρ, σ', F, ds, z, rel, hx, g, q⟩ := h
  match ds, g with
  | [.lst l], g =>
    obtain ⟨x, rfl, p, vs, rfl, h1, h2⟩ := rq1 hx
    cases ei : ints? l with
    | some ns =>
      have e : R.fre (.lst ((srtI ns).map .int)) = z := by
        unfold bltD at g
        simpa [ei] using g
      subst e
      rw [RpL.ints ei h2] at h1
      refine cr_sortedI pins s σ H _ us Q I r ⟨p, ns, rfl, SqL.of h1, fun ns' a pm so ha => ?_⟩
      rw [srt_same pm so]
      exact q _ F _ (rel.lay ha) (Same.refl F) (Rs.ofL ⟨a, _, _, rfl, rfl, upd_same, rel.newF ha, rel.new0 ha, RpL.ofInts _, rel.notOwn ha⟩)
    | none =>
      have e0 : (tupsI? l).map (fun nss => R.fre (.lst ((srtT nss).map tupI))) = some z := by
        unfold bltD at g
        simpa only [ei] using g
      obtain ⟨nss, e, rfl⟩ := map_some e0
      obtain ⟨bs, rfl, P, hn⟩ := tupsI_refs rel.sub e h2
      refine call_sortT pins s σ H _ us Q I r ⟨p, bs, nss, rfl, SqL.of h1, P, hn, fun a bs' ha P' => ?_⟩
      exact q _ F _ (rel.lay ha) (Same.refl F) (Rs.ofL ⟨a, _, _, rfl, rfl, upd_same, rel.newF ha, rel.new0 ha, tupsI_back rel.tup P', rel.notOwn ha⟩)
  | [.dic false ks ws], g =>
    obtain ⟨x, rfl, p, us', rfl, ⟨o, h1, hl, js, hj, rfl⟩, h2⟩ := rq1 hx
    have g' : (if ks.length < 64 then (ints? ks).map fun ns => R.fre (.lst ((srtI ns).map .int)) else none) = some z := g
    by_cases h64 : ks.length < 64
    · rw [if_pos h64] at g'
      obtain ⟨ns, e, rfl⟩ := map_some g'
      have hk := keyD_ints e
      rw [hj] at hk
      have hk' := Option.some.inj hk
      have h3 := mapMlen hj
      refine call_sortedDI hcalm pins s σ H _ us Q I r ⟨p, _, ns, rfl, Rd.of h1, ?_, ?_, fun ns' a pm so ha => ?_⟩
      · rw [zip_fst (by omega), hk']
      · have := congrArg List.length hk'
        rw [List.length_map] at this
        omega
      · rw [srt_same pm so]
        exact q _ F _ (rel.lay ha) (Same.refl F) (Rs.ofL ⟨a, _, _, rfl, rfl, upd_same, rel.newF ha, rel.new0 ha, RpL.ofInts _, rel.notOwn ha⟩)
    · rw [if_neg h64] at g'
      cases g'
  | [.dic true ks ws], g =>
    obtain ⟨x, rfl, p, us', rfl, ⟨o, h1, hl, js, hj, rfl⟩, h2⟩ := rq1 hx
    obtain ⟨nss, e, rfl⟩ := map_some (show (tupsI? ks).map (fun nss => R.fre (.lst ((srtT nss).map tupI))) = some z from g)
    obtain ⟨hk, hn⟩ := keysD_tups e
    rw [hj] at hk
    have h3 := mapMlen hj
    refine call_sortDT hcalm pins s σ H _ us Q I r ⟨p, _, nss, rfl, Rd.of h1, ?_, hn, fun a bs' ha P' => ?_⟩
    · rw [zip_fst (by omega), Option.some.inj hk]
    · exact q _ F _ (rel.lay ha) (Same.refl F) (Rs.ofL ⟨a, _, _, rfl, rfl, upd_same, rel.newF ha, rel.new0 ha, tupsI_back rel.tup P', rel.notOwn ha⟩)
theorem minI_spec : ∀ (l : List Int) (m : Int), (minI m l ∈ m :: l) ∧ ∀ y ∈ m :: l, minI m l ≤ y
  | [], m => ⟨by simp [minI], fun y hy => by simp at hy; simp [minI, hy]⟩
  | x :: xs, m => by
    unfold minI
    by_cases c : x < m
    · rw [if_pos c]
      obtain ⟨h1, h2⟩ := minI_spec xs x
      have h3 := h2 _ List.mem_cons_self
      refine ⟨List.mem_cons_of_mem _ h1, fun y hy => ?_⟩
      rcases List.mem_cons.mp hy with e | e
      · rw [e]
        omega
      · exact h2 y e
    · rw [if_neg c]
      obtain ⟨h1, h2⟩ := minI_spec xs m
      have h3 := h2 _ List.mem_cons_self
      refine ⟨?_, fun y hy => ?_⟩
      · rcases List.mem_cons.mp h1 with e | e
        · rw [e]
          simp
        · simp [e]
      · rcases List.mem_cons.mp hy with e | e
        · rw [e]
          omega
        · rcases List.mem_cons.mp e with e | e
          · rw [e]
            omega
          · exact h2 y (List.mem_cons_of_mem _ e)
theorem maxI_spec : ∀ (l : List Int) (m : Int), (maxI m l ∈ m :: l) ∧ ∀ y ∈ m :: l, y ≤ maxI m l
  | [], m => ⟨by simp [maxI], fun y hy => by simp at hy; simp [maxI, hy]⟩
  | x :: xs, m => by
    unfold maxI
    by_cases c : m < x
    · rw [if_pos c]
      obtain ⟨h1, h2⟩ := maxI_spec xs x
      have h3 := h2 _ List.mem_cons_self
      refine ⟨List.mem_cons_of_mem _ h1, fun y hy => ?_⟩
      rcases List.mem_cons.mp hy with e | e
      · rw [e]
        omega
      · exact h2 y e
    · rw [if_neg c]
      obtain ⟨h1, h2⟩ := maxI_spec xs m
      have h3 := h2 _ List.mem_cons_self
      refine ⟨?_, fun y hy => ?_⟩
      · rcases List.mem_cons.mp h1 with e | e
        · rw [e]
          simp
        · simp [e]
      · rcases List.mem_cons.mp hy with e | e
        · rw [e]
          omega
        · rcases List.mem_cons.mp e with e | e
          · rw [e]
            omega
          · exact h2 y (List.mem_cons_of_mem _ e)
theorem blt_min (hc : X.calm = true) : CallR X (.builtin "min") (rBlt X .min) := by
  intro pins s σ H xs us Q I r h
  obtain ⟨B, ρ, σ', F, ds, z, rel, hx, g, q⟩ := h
  match ds, g with
  | [.lst l], g =>
    obtain ⟨x, rfl, p, vs, rfl, h1, h2⟩ := rq1 hx
    simp only [bltD] at g
    split at g
    · rename_i n ns e
      cases g
      rw [RpL.ints e h2] at h1
      refine cr_min hc pins s σ H _ us Q I r ⟨p, n :: ns, rfl, SqL.of h1, by simp, fun m hm hle => ?_⟩
      obtain ⟨a1, a2⟩ := minI_spec ns n
      have e2 : m = minI n ns := Int.le_antisymm (hle _ a1) (a2 _ hm)
      rw [e2]
      exact q _ F H rel (Same.refl F) rfl
    · cases g
  | [.int i, .int j], g =>
    obtain ⟨x, y, rfl, hz, hw⟩ := rq2 hx
    have hx' : x = V.int i := hz
    have hy' : y = V.int j := hw
    subst hx' hy'
    cases g
    exact call_min2 hc pins s σ H _ us Q I r ⟨i, j, rfl, q _ F H rel (Same.refl F) rfl⟩
theorem blt_max (hc : X.calm = true) : CallR X (.builtin "max") (rBlt X .max) := by
  intro pins s σ H xs us Q I r h
  obtain ⟨B, ρ, σ', F, ds, z, rel, hx, g, q⟩ := h
  match ds, g with
  | [.lst l], g =>
    obtain ⟨x, rfl, p, vs, rfl, h1, h2⟩ := rq1 hx
    simp only [bltD] at g
    split at g
    · rename_i n ns e
      cases g
      rw [RpL.ints e h2] at h1
      refine cr_max hc pins s σ H _ us Q I r ⟨p, n :: ns, rfl, SqL.of h1, by simp, fun m hm hle => ?_⟩
      obtain ⟨a1, a2⟩ := maxI_spec ns n
      have e2 : m = maxI n ns := Int.le_antisymm (a2 _ hm) (hle _ a1)
      rw [e2]
      exact q _ F H rel (Same.refl F) rfl
    · cases g
  | [.int i, .int j], g =>
    obtain ⟨x, y, rfl, hz, hw⟩ := rq2 hx
    have hx' : x = V.int i := hz
    have hy' : y = V.int j := hw
    subst hx' hy'
    cases g
    exact call_max2 hc pins s σ H _ us Q I r ⟨i, j, rfl, q _ F H rel (Same.refl F) rfl⟩
theorem blt_int : CallR X (.type "int") (rBlt X .int) := by
  intro pins s σ H xs us Q I r h
  obtain ⟨B, ρ, σ', F, ds, z, rel, hx, g, q⟩ := h
  match ds, g with
  | [.int i], g =>
    obtain ⟨x, rfl, hz⟩ := rq1 hx
    have hx' : x = V.int i := hz
    subst hx'
    cases g
    exact call_int1 pins s σ H _ us Q I r (.inl ⟨i, rfl, q _ F H rel (Same.refl F) rfl⟩)
  | [.bl i], g =>
    obtain ⟨x, rfl, hz⟩ := rq1 hx
    have hx' : x = V.bl i := hz
    subst hx'
    cases g
    exact call_int1 pins s σ H _ us Q I r (.inr ⟨i, rfl, q _ F H rel (Same.refl F) rfl⟩)
theorem blt_abs : CallR X (.builtin "abs") (rBlt X .abs) := by
  intro pins s σ H xs us Q I r h
  obtain ⟨B, ρ, σ', F, ds, z, rel, hx, g, q⟩ := h
  match ds, g with
  | [.int i], g =>
    obtain ⟨x, rfl, hz⟩ := rq1 hx
    have hx' : x = V.int i := hz
    subst hx'
    cases g
    exact call_abs pins s σ H _ us Q I r ⟨i, rfl, q _ F H rel (Same.refl F) rfl⟩
theorem blt_str : CallR X (.type "str") (rBlt X .str) := by
  intro pins s σ H xs us Q I r h
  obtain ⟨B, ρ, σ', F, ds, z, rel, hx, g, q⟩ := h
  match ds, g with
  | [.int i], g =>
    obtain ⟨x, rfl, hz⟩ := rq1 hx
    have hx' : x = V.int i := hz
    subst hx'
    simp only [bltD] at g
    split at g
    · rename_i c
      cases g
      exact call_str_int pins s σ H _ us Q I r ⟨i, rfl, c, q _ F H rel (Same.refl F) rfl⟩
    · cases g
mutual
theorem toPy_hasDict : ∀ {d : D}, d.plain = true → d.toPy.hasDict = false
  | .non, _ => by simp [D.toPy, PyData.hasDict]
  | .bl _, _ => by simp [D.toPy, PyData.hasDict]
  | .int _, _ => by simp [D.toPy, PyData.hasDict]
  | .str x, h => by simp [D.toPy, PyData.hasDict]
  | .tup xs, h => by
    have h' : D.plains xs = true := by simpa [D.plain] using h
    simpa [D.toPy, PyData.hasDict] using toPys_hasDict h'
  | .lst xs, h => by
    have h' : D.plains xs = true := by simpa [D.plain] using h
    simpa [D.toPy, PyData.hasDict] using toPys_hasDict h'
  | .dic _ _ _, h => by simp [D.plain] at h
  | .gl _, h => by simp [D.plain] at h
  | .scr _, h => by simp [D.plain] at h
theorem toPys_hasDict : ∀ {ds : List D}, D.plains ds = true → PyData.hasDictAll (D.toPys ds) = false
  | [], _ => by simp [D.toPys, PyData.hasDictAll]
  | x :: xs, h => by
    rw [D.plains, Bool.and_eq_true] at h
    simp [D.toPys, PyData.hasDictAll, toPy_hasDict h.1, toPys_hasDict h.2]
end
theorem repr_ref (hg : X.A.guards = some []) (hu : X.A.units + 65 < cLine) {d : D} {a : Addr} {pins : List (Addr × Obj)} {s : Shared} {σ : St} {H : Hp} {us : List Value} {Q : VK} (I : L2.Inv X pins σ H s) (r : Vals [V.ref a] us) (h1 : d.plain = true) (h2 : d.dep ≤ 60) (h3 : d.toPy.showable = true) (h4 : (shw d).length ≤ sizeLine)
    (hd : Dp X.K H (.ref a) d.toPy) (q : Q (.str (shw d)) H) : wpAny (model X.prog X.w) X.A (call (.builtin "repr") us) (EP X pins σ Q) X.xe s := by
  obtain ⟨u, rfl, ru⟩ := vals1 r
  cases ru
  obtain ⟨as, rd⟩ := Dp.reads I _ _ _ hd rfl
  refine repr_of_reads' rd h3 (PyData.noDict_hsm (toPy_hasDict h1)) hg (by rw [toPy_dep h1]; omega) (fun _ _ e => e) (fun h' u tk hk => ?_) h4
  exact ⟨.str _, H, I.kept hk, ⟨u, rfl⟩, q⟩
theorem blt_repr (hg : X.A.guards = some []) (hu : X.A.units + 65 < cLine) : CallR X (.builtin "repr") (rBlt X .repr) := by
  intro pins s σ H xs us Q I r h
  obtain ⟨B, ρ, σ', F, ds, z, rel, hx, g, q⟩ := h
  match ds, g with
  | [d], g =>
    obtain ⟨x, rfl, hz⟩ := rq1 hx
    simp only [bltD] at g
    split at g
    · rename_i cc
      simp only [Bool.and_eq_true, decide_eq_true_eq] at cc
      obtain ⟨⟨⟨⟨c0, c1⟩, c2⟩, c3⟩, c4⟩ := cc
      cases g
      have hd := Rq.dp rel.sub c1 hz
      cases d with
      | lst l =>
        obtain ⟨p, vs, rfl, _⟩ := hz
        exact repr_ref hg hu I r c1 c2 c3 c4 hd (q _ F H rel (Same.refl F) rfl)
      | tup l =>
        obtain ⟨p, vs, rfl, _⟩ := hz
        exact repr_ref hg hu I r c1 c2 c3 c4 hd (q _ F H rel (Same.refl F) rfl)
      | int i =>
        have hx' : x = V.int i := hz
        subst hx'
        have e : shw (.int i) = Str.ofString (toString i) := by
          show (PyData.int i).shown = _
          rw [PyData.shown_int]
        refine SkE.call_repr_int pins s σ H _ us Q I r ⟨i, rfl, ?_, ?_⟩
        · have c3' : (PyData.int i).showable = true := c3
          simpa [PyData.showable] using c3'
        · have := q _ F H rel (Same.refl F) rfl
          rw [e] at this
          exact this
      | bl b =>
        have hx' : x = V.bl b := hz
        subst hx'
        have e : shw (.bl b) = if b then ("True" : Str) else ("False" : Str) := by
          show (PyData.bool b).shown = _
          cases b <;> decide +kernel
        obtain ⟨u, rfl, ru⟩ := vals1 r
        cases ru
        refine PySem.P.repr_of_bool ⟨.str _, H, I.tok _, ⟨_, rfl⟩, ?_⟩
        have := q _ F H rel (Same.refl F) rfl
        rw [e] at this
        exact this
      | str x =>
        have hx' : _ = V.str x := hz
        subst hx'
        have e : shw (.str x) = reprText x := by
          show (PyData.str x).shown = _
          rw [PyData.shown_str]
        obtain ⟨u, rfl, t, rfl⟩ := vals1 r
        refine PySem.P.repr_of_str ⟨.str _, H, I.tok _, ⟨_, rfl⟩, ?_⟩ (by rw [← e]; exact c4)
        have := q _ F H rel (Same.refl F) rfl
        rw [e] at this
        exact this
      | non =>
        have hx' : x = V.non := hz
        subst hx'
        have e : shw .non = ("None" : Str) := by
          show PyData.none.shown = _
          decide +kernel
        obtain ⟨u, rfl, ru⟩ := vals1 r
        cases ru
        refine PySem.P.repr_of_none ⟨.str _, H, I.tok _, ⟨_, rfl⟩, ?_⟩
        have := q _ F H rel (Same.refl F) rfl
        rw [e] at this
        exact this
      | _ => cases c0
    · cases g
/-! ### dict(pairs) -/
theorem puts_kind : ∀ {fl ks vs : List D} {t : Bool} {r : Bool × List D × List D}, ks ≠ [] → putsG t ks vs fl = some r → r.1 = t
  | [], ks, vs, t, r, h, e => by
    cases e
    rfl
  | [x], ks, vs, t, r, h, e => by simp [putsG] at e
  | k :: v :: fl, ks, vs, t, r, h, e => by
    rw [putsG] at e
    split at e
    · have e1 : kindK t ks k = t := by
        unfold kindK
        cases ks with
        | nil => exact absurd rfl h
        | cons a l => rfl
      have e2 : (putD k v ks vs).1 ≠ [] := by
        unfold putD
        split
        · exact h
        · simp
      rw [puts_kind e2 e, e1]
    · cases e
theorem put_ne {k v : D} {ks vs : List D} : (putD k v ks vs).1 ≠ [] := by
  unfold putD
  split
  · rename_i h
    rintro rfl
    simp at h
  · simp
theorem pairs_cons {x : D} {l fl : List D} (h : pairsD (x :: l) = some fl) : ∃ k v fl', x = .tup [k, v] ∧ pairsD l = some fl' ∧ fl = k :: v :: fl' := by
  match x, h with
  | .tup [k, v], h =>
    obtain ⟨fl', e1, rfl⟩ := map_some (show (pairsD l).map (fun l => k :: v :: l) = some fl from h)
    exact ⟨k, v, fl', rfl, e1, rfl⟩
theorem puts_K {K : PySem.W.Frag} {F H : Hp} (sub : Same F H) : ∀ {l : List D} {fl ks vs ks' vs' : List D} {t : Bool} {xs us : List V} {js : List Key}, pairsD l = some fl → RpL K F l xs → putsG t ks vs fl = some (false, ks', vs') → (ks ≠ [] → t = false) → ks.mapM keyD = some js → ks.length = us.length → RpL K F vs us →
    ∃ (ps : List Addr) (kvs : List (Key × V)), xs = ps.map V.ref ∧ Paired (fun p kv => SqT K H p [kV kv.1, kv.2]) ps kvs ∧ ∃ js' us', ks'.mapM keyD = some js' ∧ ks'.length = us'.length ∧ RpL K F vs' us' ∧ js'.zip us' = mergeK (js.zip us) kvs
  | [], fl, ks, vs, ks', vs', t, xs, us, js, h1, h2, h3, h4, h5, h6, h7 => by
    cases h1
    cases h3
    have h2' : xs = [] := h2
    subst h2'
    exact ⟨[], [], rfl, .nil, js, us, h5, h6, h7, rfl⟩
  | x :: l, fl, ks, vs, ks', vs', t, xs, us, js, h1, h2, h3, h4, h5, h6, h7 => by
    obtain ⟨k, v, fl', rfl, e1, rfl⟩ := pairs_cons h1
    obtain ⟨w, xs', rfl, ⟨p, ws, rfl, g1, y, r1, rfl, gy, z, r2, rfl, gz, rfl⟩, h2⟩ := h2
    rw [putsG] at h3
    split at h3
    · rename_i hk
      have e2 := puts_kind put_ne h3
      have e3 : kindK t ks k = false := e2.symm
      rw [e3] at hk h3
      obtain ⟨kk, hkk⟩ := keyD_of (d := k) hk.1
      obtain ⟨js1, us1, p1, p2, p3, p4⟩ := put_key (f := keyD) keyD_eqv hkk gz h5 h6 h7
      obtain ⟨ps, kvs, q1, q2, js', us', q3, q4, q5, q6⟩ := puts_K sub e1 h2 h3 (fun _ => rfl) p1 p2 p3
      have ek := kV_of hkk gy
      subst ek
      exact ⟨p :: ps, (kk, z) :: kvs, by rw [q1]; rfl, .cons (Same.tupT sub g1) q2, js', us', q3, q4, q5, by rw [q6, p4]; rfl⟩
    · cases h3
theorem puts_T {K : PySem.W.Frag} {F H : Hp} (sub : Same F H) : ∀ {l : List D} {fl ks vs ks' vs' : List D} {t : Bool} {xs us : List V} {js : List (List Key)}, pairsD l = some fl → RpL K F l xs → putsG t ks vs fl = some (true, ks', vs') → (ks ≠ [] → t = true) → ks.mapM keysD = some js → ks.length = us.length → RpL K F vs us →
    ∃ (ps : List Addr) (kvs : List (List Key × V)), xs = ps.map V.ref ∧ Paired (PrT K H) ps kvs ∧ ∃ js' us', ks'.mapM keysD = some js' ∧ ks'.length = us'.length ∧ RpL K F vs' us' ∧ js'.zip us' = mergeT (js.zip us) kvs
  | [], fl, ks, vs, ks', vs', t, xs, us, js, h1, h2, h3, h4, h5, h6, h7 => by
    cases h1
    cases h3
    have h2' : xs = [] := h2
    subst h2'
    exact ⟨[], [], rfl, .nil, js, us, h5, h6, h7, rfl⟩
  | x :: l, fl, ks, vs, ks', vs', t, xs, us, js, h1, h2, h3, h4, h5, h6, h7 => by
    obtain ⟨k, v, fl', rfl, e1, rfl⟩ := pairs_cons h1
    obtain ⟨w, xs', rfl, ⟨p, ws, rfl, g1, y, r1, rfl, gy, z, r2, rfl, gz, rfl⟩, h2⟩ := h2
    rw [putsG] at h3
    split at h3
    · rename_i hk
      have e2 := puts_kind put_ne h3
      have e3 : kindK t ks k = true := e2.symm
      rw [e3] at hk h3
      cases k with
      | tup as =>
        obtain ⟨kk, hkk⟩ := keys_all (ds := as) hk.1
        obtain ⟨b, bs, rfl, hb1, hb2⟩ := gy
        have eb := kVs_of hkk hb2
        subst eb
        have hkk' : keysD (.tup as) = some kk := hkk
        obtain ⟨js1, us1, p1, p2, p3, p4⟩ := put_key (f := keysD) keysD_one hkk' gz h5 h6 h7
        obtain ⟨ps, kvs, q1, q2, js', us', q3, q4, q5, q6⟩ := puts_T sub e1 h2 h3 (fun _ => rfl) p1 p2 p3
        exact ⟨p :: ps, (kk, z) :: kvs, by rw [q1]; rfl, .cons ⟨b, Same.tupT sub g1, sub _ _ hb1⟩ q2, js', us', q3, q4, q5, by rw [q6, p4]; rfl⟩
      | _ => cases hk.1
    · cases h3
theorem blt_dict (hu : X.A.units + 2 < cLine) (hc : X.calm = true) : CallR X (.type "dict") (rBlt X .dict) := by
  intro pins s σ H xs us Q I r h
  obtain ⟨B, ρ, σ', F, ds, z, rel, hx, g, q⟩ := h
  match ds, g with
  | [.lst l], g =>
    obtain ⟨x, rfl, p, vs, rfl, h1, h2⟩ := rq1 hx
    obtain ⟨⟨t, ks, ws⟩, e, rfl⟩ := map_some (show ((pairsD l).bind (putsG false [] [])).map (fun p => R.fre (.dic p.1 p.2.1 p.2.2)) = some z from g)
    obtain ⟨fl, e1, e2⟩ := Option.bind_eq_some_iff.mp e
    cases t with
    | false =>
      obtain ⟨ps, kvs, q1, q2, js, us', q3, q4, q5, q6⟩ := puts_K rel.sub e1 h2 e2 (fun _ => rfl) (js := []) (us := []) rfl rfl rfl
      subst q1
      refine call_dictP hc pins s σ H _ us Q I r ⟨p, ps, kvs, rfl, SqL.of h1, q2, fun a ha => ?_⟩
      exact q _ F _ (rel.lay ha) (Same.refl F) ⟨a, _, ⟨us', ⟨q4, js, q3, by rw [q6]; rfl⟩, q5⟩, rfl, upd_same, rel.newF ha, rel.new0 ha, rel.notOwn ha⟩
    | true =>
      obtain ⟨ps, kvs, q1, q2, js, us', q3, q4, q5, q6⟩ := puts_T rel.sub e1 h2 e2 (fun h => absurd rfl h) (js := []) (us := []) rfl rfl rfl
      subst q1
      refine call_dictT hu hc pins s σ H _ us Q I r ⟨p, ps, kvs, rfl, SqL.of h1, q2, fun a ha => ?_⟩
      exact q _ F _ (rel.lay ha) (Same.refl F) ⟨a, _, ⟨us', ⟨q4, js, q3, by rw [q6]; rfl⟩, q5⟩, rfl, upd_same, rel.newF ha, rel.new0 ha, rel.notOwn ha⟩
end
end PI
/-! Built-ins called, lists changed, menus of defs. -/
namespace PI
open PySem L2
section
variable {U : Wd} {K : PySem.W.Frag} {k : Nat} {c : Cc} {X : Cx} {W : WX}
theorem pe_nev {e : Expr} : PE X e (fun _ _ _ => False) := ⟨fun _ _ _ _ _ _ h => h.elim⟩
theorem boot_all : bootBuiltins "len" = some (.builtin "len") ∧ bootBuiltins "sum" = some (.builtin "sum") ∧ bootBuiltins "all" = some (.builtin "all") ∧ bootBuiltins "any" = some (.builtin "any") ∧ bootBuiltins "tuple" = some (.type "tuple") ∧
    bootBuiltins "list" = some (.type "list") ∧ bootBuiltins "sorted" = some (.builtin "sorted") ∧ bootBuiltins "min" = some (.builtin "min") ∧ bootBuiltins "max" = some (.builtin "max") ∧ bootBuiltins "int" = some (.type "int") ∧
    bootBuiltins "str" = some (.type "str") ∧ bootBuiltins "repr" = some (.builtin "repr") ∧ bootBuiltins "abs" = some (.builtin "abs") ∧ bootBuiltins "isinstance" = some (.builtin "isinstance") ∧ bootBuiltins "dict" = some (.type "dict") := by decide +kernel
theorem bltin_mg {x : Str} (h : c.blt x = true) (ok : XOk U k c X) (hx : x ∈ (["len", "sum", "all", "any", "tuple", "list", "sorted", "min", "max", "int", "str", "repr", "abs", "dict", "range", "enumerate", "zip", "isinstance"] : List Str)) :
    X.mg x = none ∧ Gl X x ∧ (x == ("__debug__" : Str)) = false ∧ x ≠ ("__name__" : Str) := by
  unfold Cc.blt at h
  simp only [Bool.and_eq_true, Option.isNone_iff_eq_none] at h
  obtain ⟨⟨⟨⟨h1, h2⟩, h3⟩, h4⟩, h5⟩ := h
  obtain ⟨d1, _, d3⟩ := okName_dbg h2
  rw [ok.nm] at h3 h4 h5
  exact ⟨by rw [ok.mg]; exact ok.ok.blt x hx h3 h4 h5, gbl_of h1 ok, d1, d3⟩
theorem if_or {α : Type} {p : Prop} [Decidable p] {a b : α} {r : Option α} (h : (if p then some a else r) = some b) : (p ∧ b = a) ∨ r = some b := by
  by_cases e : p
  · rw [if_pos e] at h
    exact .inl ⟨e, (Option.some.inj h).symm⟩
  · rw [if_neg e] at h
    exact .inr h
/-- a built-in's call, whichever it is -/
theorem bOf_rule {x : Str} {b : B} (h : bOf x = some b) (ok : XOk U k c X) : (∃ i, bootBuiltins x = some (.builtin i) ∧ CallR X (.builtin i) (rBlt X b)) ∨ (∃ i, bootBuiltins x = some (.type i) ∧ CallR X (.type i) (rBlt X b)) := by
  obtain ⟨b1, b2, b3, b4, b5, b6, b7, b8, b9, b10, b11, b12, b13, _, b14⟩ := boot_all
  unfold bOf at h
  rcases if_or h with ⟨rfl, rfl⟩ | h
  · exact .inl ⟨_, b1, blt_len⟩
  rcases if_or h with ⟨rfl, rfl⟩ | h
  · exact .inl ⟨_, b2, blt_sum ok.calm⟩
  rcases if_or h with ⟨rfl, rfl⟩ | h
  · exact .inl ⟨_, b3, blt_all ok.calm⟩
  rcases if_or h with ⟨rfl, rfl⟩ | h
  · exact .inl ⟨_, b4, blt_any ok.calm⟩
  rcases if_or h with ⟨rfl, rfl⟩ | h
  · exact .inr ⟨_, b5, blt_tuple⟩
  rcases if_or h with ⟨rfl, rfl⟩ | h
  · exact .inr ⟨_, b6, blt_list⟩
  rcases if_or h with ⟨rfl, rfl⟩ | h
  · exact .inl ⟨_, b7, blt_sorted ok.calm⟩
  rcases if_or h with ⟨rfl, rfl⟩ | h
  · exact .inl ⟨_, b8, blt_min ok.calm⟩
  rcases if_or h with ⟨rfl, rfl⟩ | h
  · exact .inl ⟨_, b9, blt_max ok.calm⟩
  rcases if_or h with ⟨rfl, rfl⟩ | h
  · exact .inr ⟨_, b10, blt_int⟩
  rcases if_or h with ⟨rfl, rfl⟩ | h
  · exact .inr ⟨_, b11, blt_str⟩
  rcases if_or h with ⟨rfl, rfl⟩ | h
  · exact .inl ⟨_, b12, blt_repr ok.grd (unitsOk ok)⟩
  rcases if_or h with ⟨rfl, rfl⟩ | h
  · exact .inl ⟨_, b13, blt_abs⟩
  rcases if_or h with ⟨rfl, rfl⟩ | h
  · exact .inr ⟨_, b14, blt_dict (by have := unitsOk ok; omega) ok.calm⟩
  cases h
theorem bOf_mem {x : Str} {b : B} (h : bOf x = some b) : x ∈ (["len", "sum", "all", "any", "tuple", "list", "sorted", "min", "max", "int", "str", "repr", "abs", "dict", "range", "enumerate", "zip", "isinstance"] : List Str) := by
  unfold bOf at h
  rcases if_or h with ⟨rfl, _⟩ | h
  · simp
  rcases if_or h with ⟨rfl, _⟩ | h
  · simp
  rcases if_or h with ⟨rfl, _⟩ | h
  · simp
  rcases if_or h with ⟨rfl, _⟩ | h
  · simp
  rcases if_or h with ⟨rfl, _⟩ | h
  · simp
  rcases if_or h with ⟨rfl, _⟩ | h
  · simp
  rcases if_or h with ⟨rfl, _⟩ | h
  · simp
  rcases if_or h with ⟨rfl, _⟩ | h
  · simp
  rcases if_or h with ⟨rfl, _⟩ | h
  · simp
  rcases if_or h with ⟨rfl, _⟩ | h
  · simp
  rcases if_or h with ⟨rfl, _⟩ | h
  · simp
  rcases if_or h with ⟨rfl, _⟩ | h
  · simp
  rcases if_or h with ⟨rfl, _⟩ | h
  · simp
  rcases if_or h with ⟨rfl, _⟩ | h
  · simp
  cases h
theorem te_blt {js : List E} {b : B} {t : TA} (ha : TRok U X.K k W js t) : TEok U X.K k W (.blt b js) (tCB (rBlt X b) t) := by
  intro B ρ σ F H Q rel h
  rw [ev] at h
  refine ha B ρ σ F H _ rel (Po.mono (Po.bind h) (fun q hq vs F' H' rel' sm rl => ?_) fun _ _ _ e => e)
  obtain ⟨ds, e1, h2⟩ := Po.ofO' hq
  obtain ⟨z, e2, h3⟩ := Po.ofO' h2
  exact ⟨B, q.2, σ, F', ds, z, rel', rl ds e1, e2, fun v F2 H2 r2 s2 rs2 => h3 v F2 H2 r2 (sm.trans s2) rs2⟩
theorem bltD_nil (b : B) : bltD b [] = none := by cases b <;> rfl
theorem s_blt {x : Str} {b : B} {es : List Expr} {js : List E} {p pos : Pos} (hb : bOf x = some b) (hc : c.blt x = true) (sr : SR U k c es js) (hn : es = [] → js = []) : SE U k c (.Call (.Name x p) es [] pos) (.blt b js) := by
  intro X W ok tk
  cases es with
  | nil =>
    obtain rfl := hn rfl
    refine ⟨_, pe_nev, fun B ρ σ F H Q rel h => ?_⟩
    rw [ev, evRs] at h
    simp [bltD_nil] at h
    exact h
  | cons e r =>
    obtain ⟨m1, m2, m3, m4⟩ := bltin_mg hc ok (bOf_mem hb)
    obtain ⟨ta, pa, ha⟩ := sr.2 X W ok tk
    have hs := sr.1
    rw [List.all_cons, Bool.and_eq_true] at hs
    rcases bOf_rule hb ok with ⟨i, g1, g2⟩ | ⟨i, g1, g2⟩
    · exact ⟨_, pe_callB g2 m2 m1 g1 pa m4 m3 (star_of hs.1 r X.env) (star_any r X.env pos hs.2), te_blt ha⟩
    · exact ⟨_, pe_callTy g2 m2 m1 g1 pa m4 m3 (star_of hs.1 r X.env) (star_any r X.env pos hs.2), te_blt ha⟩

/-! ### list(range(..)), tuple(range(..)) -/
theorem rp_rg {F : Hp} (i j : Int) : RpL K F (rgD i j) (rgV i j) := by
  unfold rgD rgV
  have e : (List.range (j - i).toNat).map (fun z => D.int (i + (z : Nat))) = ((List.range (j - i).toNat).map fun z => i + ((z : Nat) : Int)).map D.int := by rw [List.map_map] <;> rfl
  have e2 : (List.range (j - i).toNat).map (fun z => V.int (i + (z : Nat))) = ((List.range (j - i).toNat).map fun z => i + ((z : Nat) : Int)).map V.int := by rw [List.map_map] <;> rfl
  rw [e, e2]
  exact RpL.ofInts _
def TGok (U : Wd) (K : PySem.W.Frag) (k : Nat) (W : WX) (a b : E) (t : St → Hp → (Int → Int → Hp → Prop) → Prop) : Prop := ∀ (B : Fx) (ρ : Rho) (σ : St) (F H : Hp) (Q : Int → Int → Hp → Prop), Rel K B ρ σ F H →
  (∀ {β : Type} (f : Int → Int → Rho → Out β) (okb : β → Prop), Po (do
    let (r, ρ) ← ev (U.gm k) a ρ
    let x ← ofO (fetch ρ r)
    let i ← ofO (int? x)
    let (r, ρ) ← ev (U.gm k) b ρ
    let x ← ofO (fetch ρ r)
    let j ← ofO (int? x)
    f i j ρ) okb (erE U K B σ W) → (∀ i j ρ' F' H', Rel K B ρ' σ F' H' → Same F F' → Po (f i j ρ') okb (erE U K B σ W) → Q i j H') → t σ H Q)
theorem int_get {x : D} {i : Int} (h : int? x = some i) : x = .int i := by
  cases x <;> first | (cases h; rfl) | cases h
theorem tg_1 {b : E} {tb : TE} (hb : TEok U K k W b tb) : TGok U K k W (.con (.int 0)) b (tRg1 tb) := by
  intro B ρ σ F H Q rel β f okb h hq
  rw [ev] at h
  refine one hb rel h fun r ρ1 v F1 H1 rel1 s1 rs1 h1 => ?_
  obtain ⟨x, e1, h2⟩ := Po.ofO' h1
  obtain ⟨j, e2, h3⟩ := Po.ofO' h2
  obtain rfl := int_get e2
  exact ⟨j, rs1.read (Same.refl F1) rel1 e1, hq 0 j ρ1 F1 H1 rel1 s1 h3⟩
theorem tg_2 {a b : E} {ta tb : TE} (ha : TEok U K k W a ta) (hb : TEok U K k W b tb) : TGok U K k W a b (tRg2 ta tb) := by
  intro B ρ σ F H Q rel β f okb h hq
  refine one ha rel h fun r ρ1 v F1 H1 rel1 s1 rs1 h1 => ?_
  obtain ⟨x, e1, h2⟩ := Po.ofO' h1
  obtain ⟨i, e2, h3⟩ := Po.ofO' h2
  obtain rfl := int_get e2
  refine one hb rel1 h3 fun r2 ρ2 v2 F2 H2 rel2 s2 rs2 h4 => ?_
  obtain ⟨x2, e3, h5⟩ := Po.ofO' h4
  obtain ⟨j, e4, h6⟩ := Po.ofO' h5
  obtain rfl := int_get e4
  exact ⟨i, j, rs1.read (Same.refl F1) rel1 e1, rs2.read (Same.refl F2) rel2 e3, hq i j ρ2 F2 H2 rel2 (s1.trans s2) h6⟩
/-- range(..) as an argument -/
def SG (U : Wd) (k : Nat) (c : Cc) (e : Expr) (a b : E) : Prop := noStar e = true ∧ ∀ (X : Cx) (W : WX), XOk U k c X → Takes X W → ∃ t, PRg X e t ∧ TGok U X.K k W a b t
theorem sg_1 {a : Expr} {a' : E} {p pos : Pos} (hc : c.blt "range" = true) (hs : noStar a = true) (sa : SE U k c a a') : SG U k c (.Call (.Name "range" p) [a] [] pos) (.con (.int 0)) a' := by
  refine ⟨rfl, fun X W ok tk => ?_⟩
  obtain ⟨m1, m2, _⟩ := bltin_mg hc ok (by simp)
  obtain ⟨ta, pa, ha⟩ := sa X W ok tk
  exact ⟨_, prg_1 m2 m1 pa (star_of hs [] X.env), tg_1 ha⟩
theorem sg_2 {a b : Expr} {a' b' : E} {p pos : Pos} (hc : c.blt "range" = true) (hs : noStar a = true) (hs2 : noStar b = true) (sa : SE U k c a a') (sb : SE U k c b b') : SG U k c (.Call (.Name "range" p) [a, b] [] pos) a' b' := by
  refine ⟨rfl, fun X W ok tk => ?_⟩
  obtain ⟨m1, m2, _⟩ := bltin_mg hc ok (by simp)
  obtain ⟨ta, pa, ha⟩ := sa X W ok tk
  obtain ⟨tb, pb, hb⟩ := sb X W ok tk
  exact ⟨_, prg_2 m2 m1 pa pb (star_of hs [b] X.env) (star_of hs2 [] X.env) (by rw [star_of hs2]; rfl), tg_2 ha hb⟩
theorem s_listRg {e : Expr} {a b : E} {p pos : Pos} (hc : c.blt "list" = true) (sg : SG U k c e a b) : SE U k c (.Call (.Name "list" p) [e] [] pos) (.rngL false a b) := by
  intro X W ok tk
  obtain ⟨m1, m2, _⟩ := bltin_mg hc ok (by simp)
  obtain ⟨t, pt, ht⟩ := sg.2 X W ok tk
  refine ⟨_, pe_listRg ok.calm m2 m1 pt (star_of sg.1 [] X.env), fun B ρ σ F H Q rel h => ?_⟩
  rw [ev] at h
  refine ht B ρ σ F H _ rel (fun i j ρ => if rgB i j then pure (R.fre (.lst (rgD i j)), ρ) else .bad) _ h fun i j ρ' F' H' rel' s' h' => ?_
  by_cases z : rgB i j = true
  · rw [if_pos z] at h'
    unfold rgB at z
    have z' := of_decide_eq_true z
    refine ⟨z', fun q hq => h' (.ref q) F' _ (rel'.lay hq) s' (Rs.ofL ⟨q, _, _, rfl, rfl, upd_same, rel'.newF hq, rel'.new0 hq, rp_rg i j, rel'.notOwn hq⟩)⟩
  · rw [if_neg z] at h'
    exact h'.elim
theorem s_tupRg {e : Expr} {a b : E} {p pos : Pos} (hc : c.blt "tuple" = true) (sg : SG U k c e a b) : SE U k c (.Call (.Name "tuple" p) [e] [] pos) (.rngL true a b) := by
  intro X W ok tk
  obtain ⟨m1, m2, _⟩ := bltin_mg hc ok (by simp)
  obtain ⟨t, pt, ht⟩ := sg.2 X W ok tk
  refine ⟨_, pe_tupRg ok.calm m2 m1 pt (star_of sg.1 [] X.env), fun B ρ σ F H Q rel h => ?_⟩
  rw [ev] at h
  refine ht B ρ σ F H _ rel (fun i j ρ => if rgB i j then pure (R.dat (.tup (rgD i j)), ρ) else .bad) _ h fun i j ρ' F' H' rel' s' h' => ?_
  by_cases z : rgB i j = true
  · rw [if_pos z] at h'
    unfold rgB at z
    have z' := of_decide_eq_true z
    refine ⟨z', fun q hq => ?_⟩
    have hf := rel'.newF hq
    exact h' (.ref q) _ _ (rel'.put hq) (s'.trans (same_upd hf)) ⟨q, _, rfl, upd_same, rp_rg i j⟩
  · rw [if_neg z] at h'
    exact h'.elim

theorem cr_rangeA : CallR X (.type "range") (fun vs H Q => ∃ j, vs = [V.int j] ∧ ∀ p, H p = none → Q (.ref p) (upd H p (.rng 0 j))) := by
  intro pins s σ H vs us Q I r h
  obtain ⟨j, rfl, q⟩ := h
  obtain ⟨u1, rfl, rj⟩ := vals1 r
  obtain ⟨u, rfl⟩ := rj
  refine PySem.call_range_1 ⟨.ref s.heap.objs.size, upd H s.heap.objs.size (.rng 0 j), I.laid (t' := s.toks + 1 + 1) (fun b o e => Heap.get?_push_of_some _ e) (Nat.le_refl _) ?_, rfl, q _ (I.hok.fresh (Nat.le_refl _))⟩
  exact ⟨_, _, _, Heap.get?_push_size _ rfl⟩
theorem cr_rangeB : CallR X (.type "range") (fun vs H Q => ∃ i j, vs = [V.int i, V.int j] ∧ ∀ p, H p = none → Q (.ref p) (upd H p (.rng i j))) := by
  intro pins s σ H vs us Q I r h
  obtain ⟨i, j, rfl, q⟩ := h
  obtain ⟨u1, u2, rfl, ri, rj⟩ := vals2 r
  obtain ⟨t, rfl⟩ := ri
  obtain ⟨u, rfl⟩ := rj
  refine PySem.call_range_2 ⟨.ref s.heap.objs.size, upd H s.heap.objs.size (.rng i j), I.laid (t' := s.toks + 1) (fun b o e => Heap.get?_push_of_some _ e) (Nat.le_refl _) ?_, rfl, q _ (I.hok.fresh (Nat.le_refl _))⟩
  exact ⟨_, _, _, Heap.get?_push_size _ rfl⟩
theorem rgB_of {i j : Int} (h : rgB i j = true) : -(2 ^ 62) ≤ i ∧ i < 2 ^ 62 ∧ -(2 ^ 62) ≤ j ∧ j < 2 ^ 62 := by
  unfold rgB at h
  have z := of_decide_eq_true h
  exact ⟨z.1, z.2.1, z.2.2.1, z.2.2.2.1⟩
theorem s_rngV1 {a : Expr} {a' : E} {p pos : Pos} (hc : c.blt "range" = true) (hs : noStar a = true) (sa : SE U k c a a') : SE U k c (.Call (.Name "range" p) [a] [] pos) (.rngV (.con (.int 0)) a') := by
  intro X W ok tk
  obtain ⟨m1, m2, _⟩ := bltin_mg hc ok (by simp)
  obtain ⟨t, pa, h⟩ := sa X W ok tk
  refine ⟨_, pe_callTy cr_rangeA m2 m1 PyProof.Rows.boot_range (pa_cons pa pa_nil (star_of hs [] X.env)) (he := star_of hs [] X.env), fun B ρ σ F H Q rel hp => ?_⟩
  rw [ev] at hp
  rw [ev] at hp
  refine one h rel hp fun r ρ1 v F1 H1 rel1 s1 rs1 h1 => ?_
  obtain ⟨x, e1, h2⟩ := Po.ofO' h1
  obtain ⟨j, e2, h3⟩ := Po.ofO' h2
  obtain rfl := int_get e2
  have hv : v = .int j := rs1.read (Same.refl F1) rel1 e1
  subst hv
  by_cases z : rgB 0 j = true
  · rw [if_pos z] at h3
    refine ⟨j, rfl, fun q hq => ?_⟩
    have hf := rel1.newF hq
    exact h3 (.ref q) _ _ (rel1.put hq) (s1.trans (same_upd hf)) ⟨q, rfl, .inr ⟨0, j, upd_same, rfl, rgB_of z⟩⟩
  · rw [if_neg z] at h3
    exact h3.elim
theorem s_rngV2 {a b : Expr} {a' b' : E} {p pos : Pos} (hc : c.blt "range" = true) (hs : noStar a = true) (hs2 : noStar b = true) (sa : SE U k c a a') (sb : SE U k c b b') : SE U k c (.Call (.Name "range" p) [a, b] [] pos) (.rngV a' b') := by
  intro X W ok tk
  obtain ⟨m1, m2, _⟩ := bltin_mg hc ok (by simp)
  obtain ⟨ta, pa, ha⟩ := sa X W ok tk
  obtain ⟨tb, pb, hb⟩ := sb X W ok tk
  refine ⟨_, pe_callTy cr_rangeB m2 m1 PyProof.Rows.boot_range (pa_cons pa (pa_cons pb pa_nil (star_of hs2 [] X.env)) (star_of hs [b] X.env)) (he := star_of hs [b] X.env) (hpl := star_any [b] X.env pos (by rw [List.all_cons, hs2]; rfl)), fun B ρ σ F H Q rel hp => ?_⟩
  rw [ev] at hp
  refine one ha rel hp fun r ρ1 v F1 H1 rel1 s1 rs1 h1 => ?_
  obtain ⟨x, e1, h2⟩ := Po.ofO' h1
  obtain ⟨i, e2, h3⟩ := Po.ofO' h2
  obtain rfl := int_get e2
  have hv : v = .int i := rs1.read (Same.refl F1) rel1 e1
  subst hv
  refine one hb rel1 h3 fun r2 ρ2 v2 F2 H2 rel2 s2 rs2 h4 => ?_
  obtain ⟨x2, e3, h5⟩ := Po.ofO' h4
  obtain ⟨j, e4, h6⟩ := Po.ofO' h5
  obtain rfl := int_get e4
  have hv2 : v2 = .int j := rs2.read (Same.refl F2) rel2 e3
  subst hv2
  by_cases z : rgB i j = true
  · rw [if_pos z] at h6
    refine ⟨i, j, rfl, fun q hq => ?_⟩
    have hf := rel2.newF hq
    exact h6 (.ref q) _ _ (rel2.put hq) ((s1.trans s2).trans (same_upd hf)) ⟨q, rfl, .inr ⟨i, j, upd_same, rfl, rgB_of z⟩⟩
  · rw [if_neg z] at h6
    exact h6.elim

/-! ### a list of one's own changed -/
theorem Rel.store {B : Fx} {ρ : Rho} {σ : St} {F H : Hp} (r : Rel K B ρ σ F H) {i m : Nat} {d : D} {p : Addr} {l : List D} {ws : List V} (hi : ρ[i]? = some (.own m d)) (hp : σ[i]? = some (some (.ref p))) (hl : RpL K F l ws) : Rel K B (ρ.set i (.own m (.lst l))) σ F (upd H p (.lst ws)) := by
  obtain ⟨q, o, g1, g2, g3, g4, g6⟩ := r.own i m d hi
  have e : q = p := by
    rw [hp] at g2
    cases g2
    rfl
  subst e
  refine r.callIo (l := .lst l) hi hp upd_same ⟨ws, rfl, hl⟩ (fun _ => ⟨ws, rfl⟩) (Same.refl F) (fun b u y => ?_) (r.tup.upd (by intro _ z; cases z)) (fun a u y ne => by rw [upd_ne ne]; exact y) (fun a u _ y => y)
  have ne : b ≠ q := fun z => by
    rw [z, g3] at y
    cases y
  rw [upd_ne ne]
  exact r.sub b u y
/-- .. a dict, too -/
theorem Rel.storeO {B : Fx} {ρ : Rho} {σ : St} {F H : Hp} (r : Rel K B ρ σ F H) {i m : Nat} {d d' : D} {o : HO} {p : Addr} (hi : ρ[i]? = some (.own m d)) (hp : σ[i]? = some (some (.ref p))) (ho : Ob K F d' o) (h1 : m = 1 → ∃ vs, o = .lst vs) : Rel K B (ρ.set i (.own m d')) σ F (upd H p o) := by
  obtain ⟨q, o2, g1, g2, g3, g4, g6⟩ := r.own i m d hi
  have e : q = p := by
    rw [hp] at g2
    cases g2
    rfl
  subst e
  have h2 : B.pp = some q → ∃ vs, o = .lst vs := fun e => by
    by_cases z : m = 1
    · exact h1 z
    · obtain ⟨_, u, y⟩ := r.pin q e
      rw [g6.2 z] at y
      cases y
  refine r.callIo (l := d') hi hp upd_same ho h2 (Same.refl F) (fun b u y => ?_) (r.tup.upd ho.nt) (fun a u y ne => by rw [upd_ne ne]; exact y) (fun a u _ y => y)
  have ne : b ≠ q := fun z => by
    rw [z, g3] at y
    cases y
  rw [upd_ne ne]
  exact r.sub b u y
theorem own_any {i : Nat} {ρ : Rho} {u : Unit} (h : ownAny i ρ = some u) : ∃ m d, ρ[i]? = some (.own m d) := by
  unfold ownAny at h
  cases e : ρ[i]? with
  | none => simp [e] at h
  | some s =>
    cases s with
    | own m d => exact ⟨m, d, rfl⟩
    | _ => simp [e] at h
theorem getLast_ix {α : Type} {l : List α} {x : α} (h : l.getLast? = some x) : l[l.length - 1]? = some x := by
  rw [List.getLast?_eq_getElem?] at h
  exact h
theorem muD_lst {m : Mu} {d : D} {ds : List D} {r : D × D} (h : muD m d ds = some r) : ∃ l, d = .lst l := by
  unfold muD at h
  split at h <;> first | exact ⟨_, rfl⟩ | cases h
/-- the rule of a changing method -/
def rMu (X : Cx) (m : Mu) : V → List V → Hp → VK → Prop := fun x xs H Q => ∃ (B : Fx) (ρ : Rho) (σ : St) (F : Hp) (i md : Nat) (d z d' : D) (ds : List D), Rel X.K B ρ σ F H ∧ ρ[i]? = some (.own md d) ∧ σ[i]? = some (some x) ∧ RpL X.K F ds xs ∧ muD m d ds = some (z, d') ∧
  ∀ v F' H', Rel X.K B (ρ.set i (.own md d')) σ F' H' → Same F F' → Rp X.K F' z v → Q v H'
theorem mu_append : MtR X "list.append" (rMu X .append) := by
  intro pins s σ H x xs v us Q I rx rs h
  obtain ⟨B, ρ, σ', F, i, md, d, z, d', ds, rel, hi, hs, hd, g, q⟩ := h
  obtain ⟨p, l, vs, rfl, h2, h3, h4, h5, _⟩ := rel.ownL' (muD_lst g) hi
  have ex : x = .ref p := by
    rw [hs] at h2
    cases h2
    rfl
  subst ex
  match ds, g with
  | [y], g =>
    obtain ⟨w, r, rfl, hw, hr⟩ := hd
    have hr' : r = [] := hr
    subst hr'
    simp only [muD] at g
    split at g
    · rename_i c
      cases g
      refine mt_append pins s σ H _ _ v us Q I rx rs ⟨p, vs, w, rfl, rfl, h4, by rw [← h5.length]; exact c, ?_⟩
      exact q _ F _ (rel.store hi hs (RpL.append h5 (RpL.one hw))) (Same.refl F) rfl
    · cases g
theorem mu_extend : MtR X "list.extend" (rMu X .extend) := by
  intro pins s σ H x xs v us Q I rx rs h
  obtain ⟨B, ρ, σ', F, i, md, d, z, d', ds, rel, hi, hs, hd, g, q⟩ := h
  obtain ⟨p, l, vs, rfl, h2, h3, h4, h5, _⟩ := rel.ownL' (muD_lst g) hi
  have ex : x = .ref p := by
    rw [hs] at h2
    cases h2
    rfl
  subst ex
  match ds, g with
  | [.lst y], g =>
    obtain ⟨w, r, rfl, ⟨b, ws, rfl, hb, hw⟩, hr⟩ := hd
    have hr' : r = [] := hr
    subst hr'
    simp only [muD] at g
    split at g
    · rename_i c
      cases g
      refine mt_extend pins s σ H _ _ v us Q I rx rs ⟨p, b, vs, ws, rfl, rfl, h4, rel.sub _ _ hb, by rw [← h5.length, ← hw.length]; exact c, ?_⟩
      exact q _ F _ (rel.store hi hs (RpL.append h5 hw)) (Same.refl F) rfl
    · cases g
theorem mu_pop : MtR X "list.pop" (rMu X .pop) := by
  intro pins s σ H x xs v us Q I rx rs h
  obtain ⟨B, ρ, σ', F, i, md, d, z, d', ds, rel, hi, hs, hd, g, q⟩ := h
  obtain ⟨p, l, vs, rfl, h2, h3, h4, h5, _⟩ := rel.ownL' (muD_lst g) hi
  have ex : x = .ref p := by
    rw [hs] at h2
    cases h2
    rfl
  subst ex
  match ds, g with
  | [], g =>
    have hd' : xs = [] := hd
    subst hd'
    simp only [muD] at g
    split at g
    · rename_i y c
      cases g
      obtain ⟨w, e1, e2⟩ := h5.get (getLast_ix c)
      refine mt_pop pins s σ H _ _ v us Q I rx rs ⟨p, vs, w, rfl, rfl, h4, by rw [← h5.length]; exact e1, ?_⟩
      exact q _ F _ (rel.store hi hs h5.dropLast) (Same.refl F) e2
    · cases g
theorem mu_reverse : MtR X "list.reverse" (rMu X .reverse) := by
  intro pins s σ H x xs v us Q I rx rs h
  obtain ⟨B, ρ, σ', F, i, md, d, z, d', ds, rel, hi, hs, hd, g, q⟩ := h
  obtain ⟨p, l, vs, rfl, h2, h3, h4, h5, _⟩ := rel.ownL' (muD_lst g) hi
  have ex : x = .ref p := by
    rw [hs] at h2
    cases h2
    rfl
  subst ex
  match ds, g with
  | [], g =>
    have hd' : xs = [] := hd
    subst hd'
    cases g
    refine mt_reverse pins s σ H _ _ v us Q I rx rs ⟨p, vs, rfl, rfl, h4, ?_⟩
    exact q _ F _ (rel.store hi hs h5.reverse) (Same.refl F) rfl
theorem own_at {i : Nat} {ρ : Rho} {u : Unit} (h : ownAt i ρ = some u) : ∃ m d, ρ[i]? = some (.own m (.lst d)) := by
  unfold ownAt at h
  cases e : ρ[i]? with
  | none => simp [e] at h
  | some s =>
    cases s with
    | no => simp [e] at h
    | val d => simp [e] at h
    | lent d => simp [e] at h
    | own m d =>
      cases d with
      | lst l => exact ⟨m, l, rfl⟩
      | _ => simp [e] at h
/-- the receiver, then the arguments, then the change -/
theorem te_mut {m : Mu} {i : Nat} {js : List E} {ta : TA} {t : TE} (ha : TAok U X.K k W js ta)
    (ht : ∀ σ H Q x, σ[i]? = some (some x) → tyV X.K "list" x H → ta σ H (fun vs H2 => rMu X m x vs H2 Q) → t σ H Q) : TEok U X.K k W (.mut m i js) t := by
  intro B ρ σ F H Q rel h
  rw [ev] at h
  obtain ⟨_, e1, h1⟩ := Po.ofO' h
  obtain ⟨md, d, e2⟩ := own_at e1
  obtain ⟨p, vs, g2, g3, g4, g5, _⟩ := rel.ownL e2
  refine ht σ H Q _ g2 (.inl ⟨rfl, vs, SqL.of g4⟩) (ha B ρ σ F H _ rel (Po.mono (Po.bind h1) (fun q hq ws F' H' rel' sm rl => ?_) fun _ _ _ e => e))
  obtain ⟨ds, ρ1⟩ := q
  cases e : ρ1[i]? with
  | none =>
    simp [e] at hq
    exact hq.elim
  | some s =>
    cases s with
    | no =>
      simp [e] at hq
      exact hq.elim
    | val d =>
      simp [e] at hq
      exact hq.elim
    | lent d =>
      simp [e] at hq
      exact hq.elim
    | own m2 d =>
      simp only [e] at hq
      by_cases hm : m2 ≤ 1
      · rw [if_pos hm] at hq
        obtain ⟨⟨z, d'⟩, e3, h3⟩ := Po.ofO' hq
        exact ⟨B, ρ1, σ, F', i, m2, d, z, d', ds, rel', e, g2, rl, e3, fun v F2 H2 r2 s2 rp => h3 v F2 H2 r2 (sm.trans s2) rp⟩
      · rw [if_neg hm] at hq
        exact hq.elim
theorem few_ok {es : List Expr} (hs : es.all noStar = true) (hn : es.length < 20) (env : Env) (pos : Pos) :
    ((backTo pos (starEach es env)).all (fun x => !x.1) && (backToKw pos (keywordEach [] env)).all (fun x => x.1.isSome) && decide (es.length + ([] : List Keyword).length + (if ([] : List Keyword).isEmpty then 0 else 1) < 30)) = true := by
  have h1 := star_any es env pos hs
  have h2 : (backTo pos (starEach es env)).all (fun x => !x.1) = true := by
    rw [List.all_eq_true]
    intro z hz
    cases q : z.1 with
    | false => rfl
    | true =>
      have : (backTo pos (starEach es env)).any (·.1) = true := List.any_eq_true.mpr ⟨z, hz, q⟩
      rw [h1] at this
      cases this
  rw [h2]
  simp [keywordEach, backToKw]
  omega
theorem s_mut {x m : Str} {u : Mu} {i : Nat} {es : List Expr} {js : List E} {p ap cp : Pos} (hu : muOf m es.length = some u) (hi : c.slot x = some i) (hl : (ap.endLine == cp.line) = true) (hn : es.length < 20) (sa : SA U k c es js) (hj : es = [] → js = []) :
    SE U k c (.Call (.Attribute (.Name x p) m ap) es [] cp) (.mut u i js) := by
  intro X W ok tk
  obtain ⟨y1, y2, y3⟩ := slot_get hi ok
  obtain ⟨d1, d2, _⟩ := okName_dbg y3
  obtain ⟨ta, pa, ha⟩ := sa.2 X W ok tk
  have hs := sa.1
  have one : ∀ {id : String} {e : Expr} {r : List Expr}, es = e :: r → Slot "list" m id → typeOf (.builtin id) = pure (.type "method_descriptor") → MtR X id (rMu X u) → ∃ t, PE X (.Call (.Attribute (.Name x p) m ap) es [] cp) t ∧ TEok U X.K k W (.mut u i js) t := by
    intro id e r he sl ty mt
    subst he
    have hs' := hs
    rw [List.all_cons, Bool.and_eq_true] at hs'
    refine ⟨_, pe_bm PySem.F.plainAttrs_list sl ty mt (pe_var y1 y2 d1 d2) pa rfl (few_ok hs hn X.env cp) hl (star_of hs'.1 r X.env) (star_any r X.env cp hs'.2), te_mut ha ?_⟩
    intro σ H Q v hv hty hta
    exact ⟨v, hv, hty, hta⟩
  have none' : ∀ {id : String}, es = [] → Slot "list" m id → typeOf (.builtin id) = pure (.type "method_descriptor") → MtR X id (rMu X u) → ∃ t, PE X (.Call (.Attribute (.Name x p) m ap) es [] cp) t ∧ TEok U X.K k W (.mut u i js) t := by
    intro id he sl ty mt
    subst he
    obtain rfl := hj rfl
    refine ⟨_, pe_bm0 PySem.F.plainAttrs_list sl ty mt (pe_var y1 y2 d1 d2) rfl hl, te_mut (ta := tNil) (fun B ρ σ F H Q rel h => (by rw [evs] at h; exact h [] F H rel (Same.refl F) rfl)) ?_⟩
    intro σ H Q v hv hty hta
    exact ⟨v, hv, hty, hta⟩
  unfold muOf at hu
  rcases if_or hu with ⟨⟨rfl, e⟩, rfl⟩ | hu
  · match es, e with
    | [e1], _ => exact one rfl PySem.F.slot_list_append PySem.F.type_list_append mu_append
  rcases if_or hu with ⟨⟨rfl, e⟩, rfl⟩ | hu
  · match es, e with
    | [e1], _ => exact one rfl PySem.F.slot_list_extend PySem.F.type_list_extend mu_extend
  rcases if_or hu with ⟨⟨rfl, e⟩, rfl⟩ | hu
  · match es, e with
    | [], _ => exact none' rfl PySem.F.slot_list_pop PySem.F.type_list_pop mu_pop
  rcases if_or hu with ⟨⟨rfl, e⟩, rfl⟩ | hu
  · match es, e with
    | [], _ => exact none' rfl PySem.F.slot_list_reverse PySem.F.type_list_reverse mu_reverse
  cases hu
end
end PI
/-! Methods that change nothing. -/
namespace PI
open PySem L2
section
variable {U : Wd} {K : PySem.W.Frag} {k : Nat} {c : Cc} {X : Cx} {W : WX}
theorem findD_spec {y : D} : ∀ {l : List D} {j : Nat}, findD y l = some j → ∃ z, l[j]? = some z ∧ z.eqv y = true ∧ ∀ (m : Nat) (z' : D), m < j → l[m]? = some z' → z'.eqv y = false
  | [], _, h => by cases h
  | x :: xs, j, h => by
    unfold findD at h
    by_cases c : x.eqv y = true
    · rw [if_pos c] at h
      cases h
      exact ⟨x, rfl, c, fun m _ hm => absurd hm (Nat.not_lt_zero m)⟩
    · rw [if_neg c] at h
      obtain ⟨i, e, rfl⟩ := map_some h
      obtain ⟨z, h1, h2, h3⟩ := findD_spec e
      refine ⟨z, h1, h2, fun m z' hm hz => ?_⟩
      cases m with
      | zero =>
        cases hz
        simpa using c
      | succ m => exact h3 m z' (by omega) hz
theorem toPys_get : ∀ {l : List D} {j : Nat}, (D.toPys l)[j]? = (l[j]?).map D.toPy
  | [], j => by simp [D.toPys]
  | x :: xs, 0 => by simp [D.toPys]
  | x :: xs, j + 1 => by simp [D.toPys, toPys_get]
theorem plains_get : ∀ {l : List D} {j : Nat} {z : D}, D.plains l = true → l[j]? = some z → z.plain = true
  | [], j, z, _, h => by simp at h
  | x :: xs, 0, z, p, h => by
    simp [D.plains] at p
    cases h
    exact p.1
  | x :: xs, j + 1, z, p, h => by
    simp [D.plains] at p
    exact plains_get p.2 (by simpa using h)
theorem mb_index (hu : X.A.units + 65 < cLine) : MtR X "list.index" (fun x xs H Q => rBlt X .index (x :: xs) H Q) := by
  intro pins s σ H x xs v us Q I rx rxs h
  obtain ⟨B, ρ, σ', F, ds, z, rel, hx, g, q⟩ := h
  match ds, g with
  | [.lst l, y], g =>
    obtain ⟨x0, r0, e0, h1, hr⟩ := hx
    cases e0
    obtain ⟨y0, r1, e1, h2, hr2⟩ := hr
    have hr2' : r1 = [] := hr2
    subst e1 hr2'
    have g' : (if fit y && fit (.lst l) then (findD y l).map fun (j : Nat) => R.dat (.int (j : Nat)) else none) = some z := g
    split at g'
    · rename_i hf
      rw [Bool.and_eq_true] at hf
      obtain ⟨j, e, rfl⟩ := map_some g'
      obtain ⟨w, f1, f2, f3⟩ := findD_spec e
      obtain ⟨p1, s1⟩ := fit_shaped hf.1
      obtain ⟨p2, s2⟩ := fit_shaped hf.2
      have p2' : D.plains l = true := by simpa [D.plain] using p2
      have d1 := Rq.dp rel.sub p1 h2
      have d2 := Rq.dp rel.sub p2 h1
      obtain ⟨a, vs, rfl, _⟩ := h1
      refine mt_indexD hu pins s σ H _ _ v us Q I rx rxs ⟨a, y0, y.toPy, D.toPys l, j, w.toPy, rfl, rfl, by simpa [D.toPy] using d2, d1, by simpa [D.toPy] using s2, s1, ?_, ?_, ?_, ?_⟩
      · rw [toPys_get, f1]
        rfl
      · rw [toPy_eqv (plains_get p2' f1) p1]
        exact f2
      · intro m z' hm hz
        rw [toPys_get] at hz
        obtain ⟨w', g1, rfl⟩ := map_some hz
        rw [toPy_eqv (plains_get p2' g1) p1]
        exact f3 m w' hm g1
      · exact q (.int (j : Nat)) F H rel (Same.refl F) rfl
    · cases g'
theorem mb_bits : MtR X "int.bit_length" (fun x xs H Q => rBlt X .bitLength (x :: xs) H Q) := by
  intro pins s σ H x xs v us Q I rx rxs h
  obtain ⟨B, ρ, σ', F, ds, z, rel, hx, g, q⟩ := h
  match ds, g with
  | [.int i], g =>
    cases g
    obtain ⟨x0, r0, e0, h1, hr⟩ := hx
    have hr' : r0 = [] := hr
    subst hr'
    cases e0
    have h1' : x = V.int i := h1
    subst h1'
    obtain ⟨t, rfl⟩ := _root_.id rx
    obtain rfl := rxs.zero
    exact PyProof.Rows.call_int_bit_length ⟨.int _, H, I.tok _, ⟨_, rfl⟩, q (.int _) F H rel (Same.refl F) rfl⟩
theorem noCall_base {o : Expr} {m : Str} {env : Env} {whole : Sem Value} (h : noCall0 o = true) : attributeBase o m env whole = whole := by
  cases o <;> first | rfl | cases h
/-- a method, whichever it is -/
theorem mOf_rule {m : Str} {b : B} (h : mOf m = some b) (ok : XOk U k c X) : ∃ T id, PlainAttrs T ∧ Slot T m id ∧ typeOf (.builtin id) = pure (.type "method_descriptor") ∧ MtR X id (fun x xs H Q => rBlt X b (x :: xs) H Q) ∧
    ∀ (F H : Hp) (d : D) (v : V), kindM b d = some () → Rq X.K F H d v → tyV X.K T v H := by
  have hu := unitsOk ok
  unfold mOf at h
  rcases if_or h with ⟨rfl, rfl⟩ | h
  · refine ⟨_, _, PySem.F.plainAttrs_list, PySem.F.slot_list_index, PySem.F.type_list_index, mb_index (by omega), fun F H d v e hq => ?_⟩
    cases d with
    | lst l =>
      obtain ⟨a, vs, rfl, h1, _⟩ := hq
      exact .inl ⟨rfl, vs, SqL.of h1⟩
    | _ => cases e
  rcases if_or h with ⟨rfl, rfl⟩ | h
  · refine ⟨_, _, PySem.F.plainAttrs_int, PyProof.Rows.slot_int_bit_length, PyProof.Rows.type_int_bit_length, mb_bits, fun F H d v e hq => ?_⟩
    cases d with
    | int i =>
      have hq' : v = V.int i := hq
      subst hq'
      rfl
    | _ => cases e
  cases h
theorem te_mth {o : E} {js : List E} {b : B} {to : TE} {t : TA} {T : String} {te : TE} (ho : TEok U X.K k W o to) (ha : TRok U X.K k W js t) (hty : ∀ (F H : Hp) (d : D) (v : V), kindM b d = some () → Rq X.K F H d v → tyV X.K T v H)
    (hte : ∀ σ H Q, to σ H (fun x H1 => tyV X.K T x H1 ∧ t σ H1 fun xs H2 => rBlt X b (x :: xs) H2 Q) → te σ H Q) : TEok U X.K k W (.mth b o js) te := by
  intro B ρ σ F H Q rel h
  rw [ev] at h
  refine hte σ H Q (one ho rel h fun r ρ1 v F1 H1 rel1 s1 rs1 h1 => ?_)
  obtain ⟨x, e1, h2⟩ := Po.ofO' h1
  obtain ⟨u, e2, h3⟩ := Po.ofO' h2
  refine ⟨hty F1 H1 x v e2 (rs1.read (Same.refl F1) rel1 e1), ha B _ σ F1 H1 _ rel1 (Po.mono (Po.bind h3) (fun q hq vs F' H' rel' sm rl => ?_) fun _ _ _ e => e)⟩
  obtain ⟨ds, e3, h4⟩ := Po.ofO' hq
  obtain ⟨z, e4, h5⟩ := Po.ofO' h4
  refine ⟨B, q.2, σ, F', ds, z, rel', ?_, e4, fun v2 F2 H2 r2 s2 rs2 => h5 v2 F2 H2 r2 ((s1.trans sm).trans s2) rs2⟩
  rw [List.mapM_cons] at e3
  cases g1 : fetch q.2 r with
  | none => simp [g1] at e3
  | some d =>
    cases g2 : List.mapM (fetch q.2) q.1 with
    | none => simp [g1, g2] at e3
    | some ds' =>
      simp [g1, g2] at e3
      subst e3
      exact ⟨v, vs, rfl, rs1.read sm rel' g1, rl ds' g2⟩
theorem s_mth {o : Expr} {o' : E} {m : Str} {b : B} {es : List Expr} {js : List E} {ap cp : Pos} (hm : mOf m = some b) (hn0 : noCall0 o = true) (hl : (ap.endLine == cp.line) = true) (hn : es.length < 20) (so : SE U k c o o') (sr : SR U k c es js) (hj : es = [] → js = []) :
    SE U k c (.Call (.Attribute o m ap) es [] cp) (.mth b o' js) := by
  intro X W ok tk
  obtain ⟨T, id, p1, p2, p3, p4, p5⟩ := mOf_rule hm ok
  obtain ⟨to, po, ho⟩ := so X W ok tk
  cases es with
  | nil =>
    obtain rfl := hj rfl
    refine ⟨_, pe_bm0 p1 p2 p3 p4 po (noCall_base hn0) hl, te_mth (t := tNil) ho (fun B ρ σ F H Q rel h => ?_) p5 fun σ H Q h => h⟩
    rw [evRs] at h
    exact h [] F H rel (Same.refl F) (fun ds e => by
      simp at e
      subst e
      exact rfl)
  | cons e r =>
    obtain ⟨ta, pa, ha⟩ := sr.2 X W ok tk
    have hs := sr.1
    have hs' := hs
    rw [List.all_cons, Bool.and_eq_true] at hs'
    exact ⟨_, pe_bm p1 p2 p3 p4 po pa (noCall_base hn0) (few_ok hs hn X.env cp) hl (star_of hs'.1 r X.env) (star_any r X.env cp hs'.2), te_mth ho ha p5 fun σ H Q h => h⟩
end
end PI
/-! enumerate(a tuple), walked. -/
namespace PI
open PySem L2 PySem.Spec PyProof.Rows
theorem enum_new1 {v : Value} {o : Obj} {G : Heap → Prop} (B : Begins v o G) :
    Meets (Builtin.«enumerate.__new__» ⟨[.type "enumerate", v], []⟩) (fun _ R s => G s.heap ∧
      R (.ok (.ret (.ref (s.heap.push o).objs.size))) { s with heap := (s.heap.push o).push { cls := .type "enumerate", data := .fields #[.none, .bool false, .ref s.heap.objs.size, rawInt 0, .none, .none] } }) :=
  .of_wp fun prog w A R s h => by
    obtain ⟨hp, g, d, tk, os⟩ := s
    obtain ⟨h1, h⟩ := h
    have sb := sub_enumerate
    have it : ∀ {A' : Around} {E : Value → Shared → Prop} {Q : Value → Shared → Prop}, Q (.ref hp.objs.size) ⟨hp.push o, g, d, tk, os⟩ → wpAny (model prog w) A' (pyIter v) Q E ⟨hp, g, d, tk, os⟩ :=
      fun q => B.iter prog w _ _ ⟨hp, g, d, tk, os⟩ _ h1 q
    wp_walk using it
    all_goals first
      | exact ⟨_, rfl, h⟩
      | skip
    refine wpAny_stack_any fun st => wpAny_pure ?_
    split
    · rename_i c _ _ _ _ _
      cases (c == Value.type "enumerate")
      all_goals
        wp_walk using it
        exact ⟨_, rfl, h⟩
    · wp_walk using it
      exact ⟨_, rfl, h⟩
section
variable {prog : Program} {w : World} {A : Around} {E : Value → Shared → Prop} {s : Shared}
theorem enum_call1 {v : Value} {o : Obj} {G : Heap → Prop} {Q : Value → Shared → Prop} (B : Begins v o G) (h1 : G s.heap)
    (h : ∀ h', IsEnum h' (s.heap.objs.size + 1) s.heap.objs.size 0 .none → h'.get? s.heap.objs.size = some o → (∀ b u, s.heap.get? b = some u → h'.get? b = some u) → Q (.ref (s.heap.objs.size + 1)) { s with heap := h' }) :
    wpAny (model prog w) A (call (.type "enumerate") [v]) Q E s := by
  refine callType_new F.called_enumerate (by decide) (F.typeCall_enumerate_1 _) (F.newCall_enumerate_1 _) (fun ob => F.args_object_init_2 ob _) F.entry_enumerate_new (enum_new1 B) ⟨h1, ?_⟩
  have hz : (s.heap.push o).objs.size = s.heap.objs.size + 1 := Heap.size_push ..
  generalize ho : s.heap.push o = g at hz
  have ha : g.get? s.heap.objs.size = some o := by rw [← ho]; exact Heap.get?_push_size _ B.free
  have hk : ∀ b u, s.heap.get? b = some u → g.get? b = some u := fun b u e => by rw [← ho]; exact Heap.get?_push_of_some _ e
  show _ ∧ _
  rw [hz]
  have he : IsEnum (g.push { cls := .type "enumerate", data := .fields #[.none, .bool false, .ref s.heap.objs.size, rawInt 0, .none, .none] }) (s.heap.objs.size + 1) s.heap.objs.size 0 .none := by
    have z := Heap.get?_push_size g (o := { cls := .type "enumerate", data := .fields #[.none, .bool false, .ref s.heap.objs.size, rawInt 0, .none, .none] }) rfl
    rw [hz] at z
    exact z
  exact ⟨⟨_, he, rfl⟩, h _ he (Heap.get?_push_of_some _ ha) fun b u e => Heap.get?_push_of_some _ (hk b u e)⟩
end
/-- the tuple at a, each item in a new pair with its place -/
def IteT (K : PySem.W.Frag) (a : Addr) : It where
  go := fun i H => ∃ (xs : List V) (x : V), SqT K H a xs ∧ xs[i]? = some x
  yld := fun i H v H' => ∃ T x, v = .ref T ∧ H T = none ∧ H' = upd H T (.tup [.int (i : Nat), x]) ∧ ∀ xs, SqT K H a xs → xs[i]? = some x
  stop := fun i H => ∃ xs : List V, SqT K H a xs ∧ xs.length = i
theorem turn_enT {P : Program} {w : World} {K : PySem.W.Frag} {elts : List Expr} {kk : Nat} {tpos : Pos} (a e it : Addr) (hne : e ≠ it) (hae : a ≠ e) (hai : a ≠ it) :
    Turn P w K (.Tuple elts kk tpos) (IteT K a) [e, it] e (fun i h => (∃ old, IsEnum h e it ((i : Nat) : Int) old) ∧ h.IsTupleIter it a i) where
  mem := List.mem_cons_self
  obj := fun i h st b hb => by
    obtain ⟨⟨old, he⟩, ⟨o, ho, hc, hd⟩⟩ := st
    rcases List.mem_cons.mp hb with z | z
    · rw [z]
      exact ⟨_, he, fun v q => nomatch q⟩
    · rw [List.mem_singleton.mp z]
      exact ⟨o, ho, fun v q => by rw [hd] at q; cases q⟩
  keep := fun i h h' st k => ⟨st.1.imp fun old he => k e (by simp) _ he, st.2.at fun o q => k it (by simp) o q⟩
  item := by
    intro X hP hw hK hc i pins s σ H E I hf st hg
    subst hP hw hK
    obtain ⟨⟨old, he⟩, hit⟩ := st
    obtain ⟨xs, x, hq, hx⟩ := hg
    obtain ⟨its, rv, ht, hz⟩ := I.tuple hq
    obtain ⟨u, hu, ru⟩ := rv.get hx
    have hi : i < its.toArray.size := by
      have := (List.getElem?_eq_some_iff.mp hu).1
      simpa using this
    have D := Draws.tuple (prog := X.prog) (w := X.w) (A := X.A.in1) (I.ok.hd hc) it a hai its.toArray
    have hst : (fun (i : Nat) (h : Heap) => h.IsTupleIter it a i ∧ h.IsTuple a its.toArray) i s.heap := ⟨hit, ht⟩
    have hel : e < s.heap.objs.size := Heap.lt_size he
    have hil : it < s.heap.objs.size := by
      obtain ⟨_, q, _⟩ := hit
      exact Heap.lt_size q
    refine wpAny_pyNext_enum_itemD D he hst hi hne (by simp [hne, Ne.symm hae]) fun y h' tk hy ho hst' hT hsz hk => ?_
    have eu : y = u := by
      have hy' : its.toArray[i]? = some y := hy
      rw [List.getElem?_toArray, hu] at hy'
      exact (Option.some.inj hy').symm
    subst eu
    have cong : ∀ b ob, b ≠ e → b ≠ it → s.heap.get? b = some ob → h'.get? b = some ob := hk
    refine ⟨_, rfl, wpAny_letOwnedTupleGo_enum (s := { s with heap := h', toks := tk + 1 }) ho fun h2 he2 sb => ?_⟩
    have hT2 : h2.get? s.heap.objs.size = some { cls := .type "tuple", data := .seq #[.int i tk, y] } := (sb.2 _ (Nat.ne_of_gt hel)).trans hT
    have pair : ObjOk X.prog X.w (upd H s.heap.objs.size (.tup [.int (i : Nat), x])) h2 s.heap.objs.size (.tup [.int (i : Nat), x]) :=
      ⟨by show 2 ≤ sizeLine; decide, [.int i tk, y], .cons ⟨_, rfl⟩ (.cons ru .nil), ⟨_, hT2, rfl, _, rfl⟩⟩
    have J : L2.Inv X pins σ (upd H s.heap.objs.size (.tup [.int (i : Nat), x])) { s with heap := h2, toks := tk + 1 } :=
      I.turnedNew (ch := [e, it]) (fun b ob hb q => by
        have b1 : b ≠ e := fun z => hb (by simp [z])
        have b2 : b ≠ it := fun z => hb (by simp [z])
        exact (sb.2 b b1).trans (cong b ob b1 b2 q)) hf (Nat.le_refl _) pair
    have hit2 : h2.IsTupleIter it a (i + 1) := hst'.1.at fun o q => (sb.2 it (Ne.symm hne)).trans q
    have step : ((i + 1 : Nat) : Int) = (i : Int) + 1 := by omega
    refine ⟨.ref s.heap.objs.size, _, J, rfl, ⟨_, x, rfl, I.hok.fresh (Nat.le_refl _), rfl, fun ys hys => by rw [I.tuple_inj hys hq]; exact hx⟩, ⟨⟨y, ?_⟩, hit2⟩, fun b hb => ?_⟩
    · rw [step]
      exact he2
    · have lt : b < s.heap.objs.size := by
        rcases List.mem_cons.mp hb with z | z
        · rw [z]
          exact hel
        · rw [List.mem_singleton.mp z]
          exact hil
      rw [upd_ne (Nat.ne_of_lt lt)]
      exact (hf b hb).1
  done := by
    intro X hP hw hK hc i pins s σ H E I hf st hg
    subst hP hw hK
    obtain ⟨⟨old, he⟩, hit⟩ := st
    obtain ⟨xs, hq, hx⟩ := hg
    obtain ⟨its, rv, ht, hz⟩ := I.tuple hq
    obtain ⟨f0, f1, f2, f3, f4, f5⟩ := hf it (by simp)
    have hl := rv.length
    have D := Draws.tuple (prog := X.prog) (w := X.w) (A := X.A.in1) (I.ok.hd hc) it a hai its.toArray
    have en : i = its.toArray.size := by
      rw [List.size_toArray]
      omega
    have hst : (fun (i : Nat) (h : Heap) => h.IsTupleIter it a i ∧ h.IsTuple a its.toArray) its.toArray.size s.heap := ⟨by rw [← en]; exact hit, ht⟩
    exact wpAny_pyNext_enum_endD D he hst fun h' eb => ⟨rfl, I.turned (t' := s.toks) (fun b o hb q => eb b o hb q) f0 f1 f3 f4 f5⟩
  self := fun A i s Q E st h => by
    obtain ⟨⟨_, he⟩, _⟩ := st
    exact wpAny_pyIter_enum he h
/-- enumerate of a list or a tuple -/
def iEnA (K : PySem.W.Frag) (ta : TA) : TI := fun σ H R => ta σ H fun vs H1 => ∃ a xs, vs = [.ref a] ∧ ((SqL K H1 a xs ∧ R (Ite K a) H1) ∨ (SqT K H1 a xs ∧ R (IteT K a) H1))
theorem pi_enA {X : Cx} {e : Expr} {ta : TA} {p pos tpos : Pos} {elts : List Expr} {kk : Nat} (hg : Gl X "enumerate") (hm : X.mg "enumerate" = none) (ha : PA X [e] ta) (hs : starEach [e] X.env = [(false, eval e X.env)]) :
    PI X (.Tuple elts kk tpos) (.Call (.Name "enumerate" p) [e] [] pos) (iEnA X.K ta) := by
  refine ⟨fun pins s σ H R I h => ?_⟩
  refine Call_ (ld_blt I hg hm boot_enumerate (callWith_type1 (thn (ha.run pos pins s σ H _ I h) fun us s1 hh => ?_) hs rfl))
  obtain ⟨vs, H1, I1, r1, a, xs, ev, q⟩ := hh
  subst ev
  obtain ⟨u, rfl, ru⟩ := vals1 r1
  cases ru
  have fresh : ∀ b ∈ [s1.heap.objs.size + 1, s1.heap.objs.size], FpOk X pins H1 b := fun b hb => by
    have le : s1.heap.objs.size ≤ b := by
      rcases List.mem_cons.mp hb with z | z
      · rw [z]
        exact Nat.le_add_right _ _
      · rw [List.mem_singleton.mp z]
        exact Nat.le_refl _
    exact I1.fpOk le (I1.hok.fresh le)
  rcases q with ⟨hq, q⟩ | ⟨hq, q⟩
  · obtain ⟨its, rv, pl, hz⟩ := I1.list hq
    refine call_enumerate_list pl.isList fun h2 he hit hsz hk => wpAny_pyIter_enum he ?_
    exact ⟨s1.heap.objs.size + 1, _, _, _, H1, rfl, I1.kept (t' := s1.toks) hk, turn_enum a _ s1.heap.objs.size, ⟨⟨.none, he⟩, hit, Nat.succ_ne_self _⟩, fresh, q⟩
  · obtain ⟨its, rv, ht, hz⟩ := I1.tuple hq
    have la : a < s1.heap.objs.size := ht.lt
    refine enum_call1 (begins_tuple a its.toArray) ht fun h2 he hit hk => wpAny_pyIter_enum he ?_
    have ne1 : a ≠ s1.heap.objs.size + 1 := Nat.ne_of_lt (Nat.lt_succ_of_lt la)
    exact ⟨s1.heap.objs.size + 1, _, _, _, H1, rfl, I1.kept (t' := s1.toks) hk, turn_enT a _ s1.heap.objs.size (Nat.succ_ne_self _) ne1 (Nat.ne_of_lt la), ⟨⟨.none, he⟩, ⟨_, hit, rfl, rfl⟩⟩, fresh, q⟩
/-- a list, a tuple, a range object -/
def iSeq (K : PySem.W.Frag) (tl : TE) : TI := fun σ H R => tl σ H fun x H1 => ∃ a, x = .ref a ∧ ((∃ xs, SqL K H1 a xs ∧ R (Itl K a) H1) ∨ (∃ xs, SqT K H1 a xs ∧ R (Itt K a) H1) ∨ ∃ i j : Int, H1 a = some (.rng i j) ∧ (-(2 ^ 62) ≤ i ∧ i < 2 ^ 62 ∧ -(2 ^ 62) ≤ j ∧ j < 2 ^ 62) ∧ R (Itr i (j - i).toNat) H1)
theorem pi_seq {X : Cx} {tg l : Expr} {tl : TE} (hl : PE X l tl) : PI X tg l (iSeq X.K tl) := by
  refine ⟨fun pins s σ H R I h => ?_⟩
  refine thn (hl.run pins s σ H _ I h) fun v s1 hh => ?_
  obtain ⟨x, H1, I1, r1, a, ex, q⟩ := hh
  subst ex
  cases r1
  have fresh : ∀ b ∈ [s1.heap.objs.size], FpOk X pins H1 b := fun b hb => by
    rw [List.mem_singleton.mp hb]
    exact I1.fpOk (Nat.le_refl _) (I1.hok.fresh (Nat.le_refl _))
  rcases q with ⟨xs, hq, q⟩ | ⟨xs, hq, q⟩ | ⟨i, j, hq, ⟨g1, g2, g3, g4⟩, q⟩
  · obtain ⟨its, rv, pl, hz⟩ := I1.list hq
    refine wpAny_pyIter_list pl.isList ?_
    exact ⟨s1.heap.objs.size, _, _, _, H1, rfl, I1.kept (t' := s1.toks) fun b o e => Heap.get?_push_of_some _ e, turn_list a _, ⟨_, Heap.get?_push_size _ rfl, rfl, rfl⟩, fresh, q⟩
  · obtain ⟨its, rv, ht, hz⟩ := I1.tuple hq
    refine wpAny_pyIter_tuple (show s1.heap.IsTuple a its.toArray from ht) ?_
    exact ⟨s1.heap.objs.size, _, _, _, H1, rfl, I1.kept (t' := s1.toks) fun b o e => Heap.get?_push_of_some _ e, turn_tuple a _, ⟨_, Heap.get?_push_size _ rfl, rfl, rfl⟩, fresh, q⟩
  · obtain ⟨t, u, w, ho⟩ := I1.hok a _ hq
    refine wpAny_pyIter_range ho (small_one g1 g2 g3 g4) ?_
    refine ⟨s1.heap.objs.size, [s1.heap.objs.size], _, _, H1, rfl, I1.kept (t' := s1.toks) fun b o e => Heap.get?_push_of_some _ e, turn_range _ i (j - i).toNat, ?_, fresh, q⟩
    have e1 : i + ((0 : Nat) : Int) * 1 = i := by simp
    have e2 : (((j - i).toNat : Nat) : Int) - ((0 : Nat) : Int) = Builtin.Range.rangeSize i j 1 := by rw [rangeSize_one]; split <;> omega
    show IsRangeIter _ _ (i + ((0 : Nat) : Int) * 1) ((((j - i).toNat : Nat) : Int) - ((0 : Nat) : Int)) 1
    rw [e1, e2]
    exact Heap.get?_push_size _ rfl
end PI
/-! What loops and comprehensions walk. -/
namespace PI
open PySem L2
/-- the list at the place i, at p, is walked -/
def Fx.lend (B : Fx) (i : Nat) (p : Addr) (vs : List V) : Fx := { B with H0 := upd B.H0 p (.lst vs), ln := fun j => if j = i then some p else B.ln j }
section
variable {U : Wd} {K : PySem.W.Frag} {k : Nat} {c : Cc} {X : Cx} {W : WX} {B B' : Fx} {ρ : Rho} {σ : St} {F F1 H : Hp}
theorem Rel.lendIt (r : Rel K B ρ σ F H) {i : Nat} {d : D} (hi : ρ[i]? = some (.own 0 d)) (hd : ∃ l, d = .lst l) : ∃ p ds vs, d = .lst ds ∧ σ[i]? = some (some (.ref p)) ∧ RpL K F ds vs ∧ B.H0 p = none ∧ Rel K (B.lend i p vs) (ρ.set i (.lent d)) σ F H := by
  obtain ⟨p, ds, vs, rfl, g2, g3, g4, g5, g6, g7⟩ := r.ownL' hd hi
  have h0 := g7 (by decide)
  have hlt : i < ρ.length := (List.getElem?_eq_some_iff.mp hi).1
  have pp : B.pp ≠ some p := fun z => by
    obtain ⟨_, o, e⟩ := r.pin p z
    rw [h0] at e
    cases e
  have f0 : B.F0 p = none := Same.free r.grow g3
  have back : ∀ {j : Nat} {s : Sl}, (ρ.set i (.lent (.lst ds)))[j]? = some s → (j = i ∧ s = .lent (.lst ds)) ∨ (j ≠ i ∧ ρ[j]? = some s) := fun {j s} e => by
    by_cases z : i = j
    · subst z
      rw [List.getElem?_set_self hlt] at e
      exact .inl ⟨rfl, (Option.some.inj e).symm⟩
    · rw [List.getElem?_set_ne z] at e
      exact .inr ⟨fun y => z y.symm, e⟩
  refine ⟨p, ds, vs, rfl, g2, g5, h0, ⟨r.sub, by rw [List.length_set]; exact r.len, fun j d e => ?_, fun j m d e => ?_, fun j d e => ?_, fun j q e => ?_, fun j j2 m1 d1 m2 d2 q e1 e2 e3 e4 => ?_, fun a u q z => ?_, fun a u q z => ?_, r.grow, fun q e => ?_, r.tup⟩⟩
  · rcases back e with ⟨_, e2⟩ | ⟨_, e2⟩
    · cases e2
    · exact r.val j d e2
  · rcases back e with ⟨_, e2⟩ | ⟨ne, e2⟩
    · cases e2
    · obtain ⟨q, o', h1, h2, h3, h4, h6, h7⟩ := r.own j m d e2
      have nq : q ≠ p := fun z => ne (r.sep j i _ _ _ _ p e2 hi (by rw [h2, z]) g2)
      exact ⟨q, o', h1, h2, h3, h4, h6, fun m1 => by
        show upd B.H0 p _ q = none
        rw [upd_ne nq]
        exact h7 m1⟩
  · rcases back e with ⟨rfl, e2⟩ | ⟨ne, e2⟩
    · cases e2
      exact ⟨p, ds, vs, rfl, g2, g3, upd_same, by show (if j = j then some p else B.ln j) = some p; rw [if_pos rfl], pp, g5⟩
    · obtain ⟨q, ds', vs', h1, h2, h3, h4, h5, h6, h7⟩ := r.lent j d e2
      have nq : q ≠ p := fun z => by
        rw [z, h0] at h4
        cases h4
      exact ⟨q, ds', vs', h1, h2, h3, by show upd B.H0 p _ q = _; rw [upd_ne nq]; exact h4, by show (if j = i then some p else B.ln j) = some q; rw [if_neg ne]; exact h5, h6, h7⟩
  · have e' : (if j = i then some p else B.ln j) = some q := e
    by_cases z : j = i
    · rw [if_pos z] at e'
      cases e'
      exact ⟨_, upd_same⟩
    · rw [if_neg z] at e'
      obtain ⟨o, h⟩ := r.lnk j q e'
      have nq : q ≠ p := fun y => by
        rw [y, h0] at h
        cases h
      exact ⟨o, by show upd B.H0 p _ q = _; rw [upd_ne nq]; exact h⟩
  · rcases back e1 with ⟨_, f1⟩ | ⟨_, f1⟩
    · cases f1
    · rcases back e2 with ⟨_, f2⟩ | ⟨_, f2⟩
      · cases f2
      · exact r.sep j j2 _ _ _ _ q f1 f2 e3 e4
  · have q' : upd B.H0 p (.lst vs) a = some u := q
    by_cases y : a = p
    · subst y
      rw [upd_same] at q'
      cases q'
      exact g4
    · rw [upd_ne y] at q'
      exact r.keepH a u q' z
  · have q' : upd B.H0 p (.lst vs) a = some u := q
    by_cases y : a = p
    · rw [y]
      exact g3
    · rw [upd_ne y] at q'
      exact r.keepF a u q' z
  · obtain ⟨h1, o, h2⟩ := r.pin q e
    have nq : q ≠ p := fun y => by
      rw [y, h0] at h2
      cases h2
    exact ⟨h1, o, by show upd B.H0 p _ q = _; rw [upd_ne nq]; exact h2⟩
theorem Rel.unlendIt {i : Nat} {p : Addr} {vs : List V} (r : Rel K (B.lend i p vs) ρ σ F H) (h0 : B.H0 p = none) (hl : ∀ j q, B.ln j = some q → ∃ o, B.H0 q = some o) {d : D} (hi : ρ[i]? = some (.lent d)) : Rel K B (ρ.set i (.own 0 d)) σ F H := by
  obtain ⟨q0, ds, vs0, rfl, g2, g3, g4, g5, g6, g7⟩ := r.lent i d hi
  have e0 : q0 = p := by
    have e : (if i = i then some p else B.ln i) = some q0 := g5
    rw [if_pos rfl] at e
    exact (Option.some.inj e).symm
  subst e0
  have gH := r.keepH q0 _ g4 g6
  have up : ∀ {a : Addr} {o : HO}, B.H0 a = some o → a ≠ q0 ∧ (B.lend i q0 vs).H0 a = some o := fun {a o} e => by
    have ne : a ≠ q0 := fun z => by
      rw [z, h0] at e
      cases e
    exact ⟨ne, by show upd B.H0 q0 _ a = _; rw [upd_ne ne]; exact e⟩
  have dn : ∀ {a : Addr}, (B.lend i q0 vs).H0 a = none → a ≠ q0 ∧ B.H0 a = none := fun {a} e => by
    have e' : upd B.H0 q0 (.lst vs) a = none := e
    have ne : a ≠ q0 := fun z => by
      rw [z, upd_same] at e'
      cases e'
    rw [upd_ne ne] at e'
    exact ⟨ne, e'⟩
  have hlt : i < ρ.length := (List.getElem?_eq_some_iff.mp hi).1
  have back : ∀ {j : Nat} {s : Sl}, (ρ.set i (.own 0 (.lst ds)))[j]? = some s → (j = i ∧ s = .own 0 (.lst ds)) ∨ (j ≠ i ∧ ρ[j]? = some s) := fun {j s} e => by
    by_cases z : i = j
    · subst z
      rw [List.getElem?_set_self hlt] at e
      exact .inl ⟨rfl, (Option.some.inj e).symm⟩
    · rw [List.getElem?_set_ne z] at e
      exact .inr ⟨fun y => z y.symm, e⟩
  have away : ∀ {j m : Nat} {d' : D} {q : Addr}, ρ[j]? = some (Sl.own m d') → σ[j]? = some (some (V.ref q)) → q ≠ q0 := fun {j m d' q} e1 e2 z => by
    obtain ⟨q', _, _, k2, _, _, k6, k7⟩ := r.own j m d' e1
    rw [k2] at e2
    cases e2
    by_cases m1 : m = 1
    · exact g6 (by rw [← z]; exact k6 m1)
    · exact (dn (k7 m1)).1 z
  refine ⟨r.sub, by rw [List.length_set]; exact r.len, fun j d e => ?_, fun j m d e => ?_, fun j d e => ?_, hl, fun j j2 m1 d1 m2 d2 q e1 e2 e3 e4 => ?_, fun a u q z => r.keepH a u (up q).2 z, fun a u q z => r.keepF a u (up q).2 z, r.grow, fun q e => ?_, r.tup⟩
  · rcases back e with ⟨_, e2⟩ | ⟨_, e2⟩
    · cases e2
    · exact r.val j d e2
  · rcases back e with ⟨rfl, e2⟩ | ⟨ne, e2⟩
    · cases e2
      exact ⟨q0, .lst vs0, ⟨vs0, rfl, g7⟩, g2, g3, gH, (fun z => by cases z), fun _ => h0⟩
    · obtain ⟨q, o', h1, h2, h3, h4, h6, h7⟩ := r.own j m d e2
      exact ⟨q, o', h1, h2, h3, h4, h6, fun m1 => (dn (h7 m1)).2⟩
  · rcases back e with ⟨_, e2⟩ | ⟨ne, e2⟩
    · cases e2
    · obtain ⟨q, ds', vs', h1, h2, h3, h4, h5, h6, h7⟩ := r.lent j d e2
      have e5 : B.ln j = some q := by
        have e' : (if j = i then some q0 else B.ln j) = some q := h5
        rw [if_neg ne] at e'
        exact e'
      obtain ⟨o, ho⟩ := hl j q e5
      have hh := (up ho).2
      rw [h4] at hh
      cases hh
      exact ⟨q, ds', vs', h1, h2, h3, ho, e5, h6, h7⟩
  · rcases back e1 with ⟨rfl, f1⟩ | ⟨n1, f1⟩
    · rcases back e2 with ⟨rfl, f2⟩ | ⟨n2, f2⟩
      · rfl
      · rw [g2] at e3
        cases e3
        exact absurd rfl (away f2 e4)
    · rcases back e2 with ⟨rfl, f2⟩ | ⟨n2, f2⟩
      · rw [g2] at e4
        cases e4
        exact absurd rfl (away f1 e3)
      · exact r.sep j j2 _ _ _ _ q f1 f2 e3 e4
  · obtain ⟨h1, o, h2⟩ := r.pin q e
    refine ⟨h1, ?_⟩
    have h2' : upd B.H0 q0 (.lst vs) q = some o := h2
    have ne : q ≠ q0 := fun z => g6 (by rw [← z]; exact e)
    rw [upd_ne ne] at h2'
    exact ⟨o, h2'⟩
/-- a wider frame -/
def Wid (B B' : Fx) : Prop := (∀ o b, B.H0 b = some o → B'.H0 b = some o) ∧ B'.pp = B.pp
theorem wid_refl : Wid B B := ⟨fun _ _ e => e, rfl⟩
theorem Wid.trans {B2 : Fx} (h : Wid B B') (g : Wid B' B2) : Wid B B2 := ⟨fun o b e => g.1 o b (h.1 o b e), g.2.trans h.2⟩
theorem Wid.free (w : Wid B B') {a : Addr} (h : B'.H0 a = none) : B.H0 a = none := by
  cases e : B.H0 a with
  | none => rfl
  | some o =>
    rw [w.1 o a e] at h
    cases h
/-- from lent places back -/
structure Back (K : PySem.W.Frag) (B B' : Fx) (js : List Nat) : Prop where
  wid : Wid B B'
  rel : ∀ ρ ρ' σ F H, Rel K B' ρ σ F H → unlends js ρ = some ρ' → Rel K B ρ' σ F H
  off : ∀ a, B'.H0 a = none → ∀ ρ ρ' σ F H, Rel K B' ρ σ F H → unlends js ρ = some ρ' → (∀ (i m : Nat) (e : D), ρ[i]? = some (Sl.own m e) → σ[i]? ≠ some (some (V.ref a))) → ∀ (i m : Nat) (e : D), ρ'[i]? = some (Sl.own m e) → σ[i]? ≠ some (some (V.ref a))
theorem back_nil : Back K B B [] := ⟨wid_refl, fun ρ ρ' σ F H r e => by
  have e' : some ρ = some ρ' := e
  cases e'
  exact r, fun D h ρ ρ' σ F H r e hn => by
  have e' : some ρ = some ρ' := e
  cases e'
  exact hn⟩
theorem back_one {i : Nat} {p : Addr} {vs : List V} (h0 : B.H0 p = none) (hl : ∀ j q, B.ln j = some q → ∃ o, B.H0 q = some o) : Back K B (B.lend i p vs) [i] := by
  refine ⟨⟨fun o b y => ?_, rfl⟩, fun ρ ρ' σ F H r e => ?_, fun D h ρ ρ' σ F H r e hn => ?_⟩
  · have ne : b ≠ p := fun z => by
      rw [z, h0] at y
      cases y
    show upd B.H0 p _ b = _
    rw [upd_ne ne]
    exact y
  · have e' : (unlend ρ i).bind some = some ρ' := e
    unfold unlend at e'
    cases q : ρ[i]? with
    | none => simp [q] at e'
    | some s =>
      cases s with
      | lent d =>
        simp [q] at e'
        subst e'
        exact r.unlendIt h0 hl q
      | _ => simp [q] at e'
  · have e' : (unlend ρ i).bind some = some ρ' := e
    unfold unlend at e'
    cases q : ρ[i]? with
    | none => simp [q] at e'
    | some s =>
      cases s with
      | lent d =>
        simp [q] at e'
        subst e'
        intro j m x hx
        have hlt : i < ρ.length := (List.getElem?_eq_some_iff.mp q).1
        by_cases z : i = j
        · subst z
          obtain ⟨q0, ds, vs0, rfl, g2, g3, g4, g5, g6, g7⟩ := r.lent i d q
          intro y
          rw [g2] at y
          cases y
          rw [h] at g4
          cases g4
        · rw [List.getElem?_set_ne z] at hx
          exact hn j m x hx
      | _ => simp [q] at e'
theorem back_two {B2 : Fx} {is js : List Nat} (h1 : Back K B B' js) (h2 : Back K B' B2 is) : Back K B B2 (is ++ js) := by
  refine ⟨h1.wid.trans h2.wid, fun ρ ρ' σ F H r e => ?_, fun D h ρ ρ' σ F H r e hn => ?_⟩
  · unfold unlends at e
    rw [List.foldlM_append] at e
    obtain ⟨ρ1, e1, e2⟩ := Option.bind_eq_some_iff.mp e
    exact h1.rel ρ1 ρ' σ F H (h2.rel ρ ρ1 σ F H r e1) e2
  · unfold unlends at e
    rw [List.foldlM_append] at e
    obtain ⟨ρ1, e1, e2⟩ := Option.bind_eq_some_iff.mp e
    exact h1.off D (h2.wid.free h) ρ1 ρ' σ F H (h2.rel ρ ρ1 σ F H r e1) e2 (h2.off D h ρ ρ1 σ F H r e1 hn)
/-- what is walked stands still -/
def Still (K : PySem.W.Frag) (B : Fx) (F1 : Hp) (a : Addr) (xs : List V) : Prop := ∀ B3, Wid B B3 → ∀ ρ σ F H, Rel K B3 ρ σ F H → Same F1 F → SqL K H a xs
/-- lending, told of the heap -/
theorem lend_ok {q : R} {v : V} {l : List D} {js : List Nat} {ρ' : Rho} {F0 H0 : Hp} {ρ0 : Rho} (rel : Rel K B ρ σ F H) (rs : Rs K B ρ0 σ F0 H0 q.set v) (sm : Same F0 F) (h : PI.lend ρ q = some (l, js, ρ')) :
    ∃ B' a vs, v = .ref a ∧ Rel K B' ρ' σ F H ∧ Back K B B' js ∧ ((RpL K F l vs ∧ (Still K B' F a vs ∨ SqT K F a vs)) ∨ (∃ i j : Int, F a = some (.rng i j) ∧ l = rgD i j ∧ (-(2 ^ 62) ≤ i ∧ i < 2 ^ 62 ∧ -(2 ^ 62) ≤ j ∧ j < 2 ^ 62) ∧ fetch ρ q = some (.scr l))) ∧ (∀ x, fetch ρ q = some x → (∃ y, x = .tup y) → SqT K F a vs ∧ RpL K F l vs) ∧ (∀ x, fetch ρ q = some x → (∃ y, x = .lst y) → Still K B' F a vs ∧ RpL K F l vs) ∧
      Wid B B' := by
  have stillF : ∀ {a : Addr} {vs : List V}, F a = some (.lst vs) → Still K B F a vs := fun {a vs} e B3 _ ρ σ F2 H2 r2 s2 => SqL.of (r2.sub _ _ (s2 _ _ e))
  have val : ∀ {d : D}, Rp K F d v → (seq? d).map (fun l => (l, ([] : List Nat), ρ)) = some (l, js, ρ') → fetch ρ q = some d → ∃ B' a vs, v = .ref a ∧ Rel K B' ρ' σ F H ∧ Back K B B' js ∧ ((RpL K F l vs ∧ (Still K B' F a vs ∨ SqT K F a vs)) ∨ (∃ i j : Int, F a = some (.rng i j) ∧ l = rgD i j ∧ (-(2 ^ 62) ≤ i ∧ i < 2 ^ 62 ∧ -(2 ^ 62) ≤ j ∧ j < 2 ^ 62) ∧ fetch ρ q = some (.scr l))) ∧ (∀ x, fetch ρ q = some x → (∃ y, x = .tup y) → SqT K F a vs ∧ RpL K F l vs) ∧ (∀ x, fetch ρ q = some x → (∃ y, x = .lst y) → Still K B' F a vs ∧ RpL K F l vs) ∧
      Wid B B' := by
    intro d hd e hf
    obtain ⟨l', e1, e2⟩ := map_some e
    cases e2
    cases d with
    | lst x =>
      cases e1
      obtain ⟨a, vs, rfl, h1, h2⟩ := hd
      exact ⟨B, a, vs, rfl, rel, back_nil, .inl ⟨h2, .inl (stillF h1)⟩, (fun x hx hy => by obtain ⟨y, rfl⟩ := hy; rw [hf] at hx; cases hx), (fun _ _ _ => ⟨stillF h1, h2⟩), wid_refl⟩
    | tup x =>
      cases e1
      obtain ⟨a, vs, rfl, h1, h2⟩ := hd
      exact ⟨B, a, vs, rfl, rel, back_nil, .inl ⟨h2, .inr (SqT.of h1)⟩, (fun _ _ _ => ⟨SqT.of h1, h2⟩), (fun x hx hy => by obtain ⟨y, rfl⟩ := hy; rw [hf] at hx; cases hx), wid_refl⟩
    | scr x =>
      cases e1
      obtain ⟨a, rfl, hd⟩ := hd
      rcases hd with ⟨vs, h1, h2⟩ | ⟨i, j, h1, rfl, h3⟩
      · have st : Still K B F a vs := fun B3 _ ρ σ F2 H2 r2 s2 => Same.sqL (s2.trans r2.sub) h1
        exact ⟨B, a, vs, rfl, rel, back_nil, .inl ⟨h2, .inl st⟩, (fun x hx hy => by obtain ⟨y, rfl⟩ := hy; rw [hf] at hx; cases hx), (fun x hx hy => by obtain ⟨y, rfl⟩ := hy; rw [hf] at hx; cases hx), wid_refl⟩
      · exact ⟨B, a, [], rfl, rel, back_nil, .inr ⟨i, j, h1, rfl, h3, hf⟩, (fun x hx hy => by obtain ⟨y, rfl⟩ := hy; rw [hf] at hx; cases hx), (fun x hx hy => by obtain ⟨y, rfl⟩ := hy; rw [hf] at hx; cases hx), wid_refl⟩
    | _ => cases e1
  cases q with
  | dat d => exact val (Rp.mono sm rs) h rfl
  | fre d => exact val (Rp.mono sm rs) h rfl
  | pl i =>
    obtain ⟨_, hs⟩ := rs
    unfold PI.lend at h
    cases e : ρ[i]? with
    | none => simp [e] at h
    | some s =>
      cases s with
      | no => simp [e] at h
      | val d =>
        simp only [e] at h
        obtain ⟨w, h1, h2⟩ := rel.val i d e
        rw [hs] at h1
        cases h1
        exact val h2 h (by simp [fetch, e])
      | lent d =>
        obtain ⟨p, ds, vs, rfl, g2, g3, g4, g5, g6, g7⟩ := rel.lent i d e
        simp [e] at h
        obtain ⟨rfl, rfl, rfl⟩ := h
        rw [hs] at g2
        cases g2
        have st : Still K B F p vs := fun B3 wd ρ σ F2 H2 r2 s2 => SqL.of (r2.keepH p _ (wd.1 _ _ g4) (by rw [wd.2]; exact g6))
        exact ⟨B, p, vs, rfl, rel, back_nil, .inl ⟨g7, .inl st⟩, (fun x hx hy => by obtain ⟨y, rfl⟩ := hy; simp [fetch, e] at hx), (fun _ _ _ => ⟨st, g7⟩), wid_refl⟩
      | own m d =>
        match m with
        | m + 1 => simp [e] at h
        | 0 =>
          have hd : ∃ l, d = .lst l := by
            cases d with
            | lst l => exact ⟨l, rfl⟩
            | _ => simp [e] at h
          obtain ⟨p, ds, vs, rfl, g2, g3, g4, g5⟩ := rel.lendIt e hd
          simp [e] at h
          obtain ⟨rfl, rfl, rfl⟩ := h
          rw [hs] at g2
          cases g2
          have pp : B.pp ≠ some p := fun z => by
            obtain ⟨_, o, y⟩ := rel.pin p z
            rw [g4] at y
            cases y
          have st : Still K (B.lend i p vs) F p vs := fun B3 wd ρ σ F2 H2 r2 s2 => SqL.of (r2.keepH p _ (wd.1 _ _ upd_same) (by rw [wd.2]; exact pp))
          refine ⟨B.lend i p vs, p, vs, rfl, g5, back_one g4 rel.lnk, .inl ⟨g3, .inl st⟩, (fun x hx hy => by obtain ⟨y, rfl⟩ := hy; simp [fetch, e] at hx), (fun _ _ _ => ⟨st, g3⟩), fun o b y => ?_, rfl⟩
          have ne : b ≠ p := fun z => by
            rw [z, g4] at y
            cases y
          show upd B.H0 p _ b = _
          rw [upd_ne ne]
          exact y

/-- the walk of plain items -/
def Wk (K : PySem.W.Frag) (B : Fx) (F1 : Hp) (J : It) (l : List D) : Prop := ∀ B3, Wid B B3 → ∀ ρ σ F H, Rel K B3 ρ σ F H → Same F1 F → J.stop l.length H ∧ ∀ i d, l[i]? = some d → J.go i H ∧ ∀ x H', J.yld i H x H' → ∃ F', Same F F' ∧ Rel K B3 ρ σ F' H' ∧ Rp K F' d x
theorem wk_list {a : Addr} {vs : List V} {l : List D} (st : Still K B F1 a vs) (h : RpL K F1 l vs) : Wk K B F1 (Itl K a) l := by
  intro B3 wd ρ σ F H rel sm
  have q := st B3 wd ρ σ F H rel sm
  refine ⟨⟨vs, q, by rw [h.length]; exact Nat.le_refl _⟩, fun i d hd => ?_⟩
  obtain ⟨v, hv, rv⟩ := h.get hd
  refine ⟨⟨vs, v, q, hv⟩, fun x H' y => ?_⟩
  obtain ⟨rfl, y⟩ := y
  have e := y vs q
  rw [hv] at e
  cases e
  exact ⟨F, Same.refl F, rel, Rp.mono sm rv⟩
theorem wk_tup {a : Addr} {vs : List V} {l : List D} (st : SqT K F1 a vs) (h : RpL K F1 l vs) : Wk K B F1 (Itt K a) l := by
  intro B3 wd ρ σ F H rel sm
  have q : SqT K H a vs := Same.sqT (sm.trans rel.sub) st
  refine ⟨⟨vs, q, by rw [h.length]; exact Nat.le_refl _⟩, fun i d hd => ?_⟩
  obtain ⟨v, hv, rv⟩ := h.get hd
  refine ⟨⟨vs, v, q, hv⟩, fun x H' y => ?_⟩
  obtain ⟨rfl, y⟩ := y
  have e := y vs q
  rw [hv] at e
  cases e
  exact ⟨F, Same.refl F, rel, Rp.mono sm rv⟩
theorem wk_range {i j : Int} : Wk K B F1 (Itr i (j - i).toNat) (rgD i j) := by
  intro B3 wd ρ σ F H rel sm
  have hl : (rgD i j).length = (j - i).toNat := by simp [rgD]
  refine ⟨by show (j - i).toNat ≤ (rgD i j).length; rw [hl]; exact Nat.le_refl _, fun n d hd => ?_⟩
  have lt : n < (j - i).toNat := by
    have := (List.getElem?_eq_some_iff.mp hd).1
    omega
  refine ⟨lt, fun x H' y => ?_⟩
  obtain ⟨rfl, rfl⟩ := y
  have e : (rgD i j)[n]? = some (.int (i + (n : Nat))) := by
    unfold rgD
    rw [List.getElem?_map, List.getElem?_range lt] <;> rfl
  rw [e] at hd
  cases hd
  exact ⟨F, Same.refl F, rel, rfl⟩
theorem enum_get : ∀ {l : List D} {n i : Nat} {d : D}, (enumD n l)[i]? = some d → ∃ x, l[i]? = some x ∧ d = .tup [.int ((n + i : Nat) : Int), x]
  | [], n, i, d, h => by simp [enumD] at h
  | y :: ys, n, 0, d, h => by
    simp [enumD] at h
    exact ⟨y, rfl, h.symm⟩
  | y :: ys, n, i + 1, d, h => by
    have h' : (enumD (n + 1) ys)[i]? = some d := by simpa [enumD] using h
    obtain ⟨x, h1, h2⟩ := enum_get h'
    exact ⟨x, by simpa using h1, by rw [h2, show n + 1 + i = n + (i + 1) by omega]⟩
theorem enum_len : ∀ (l : List D) (n : Nat), (enumD n l).length = l.length
  | [], _ => rfl
  | y :: ys, n => by simp [enumD, enum_len ys]
/-- a pair that was just made -/
theorem pair_new {T : Addr} {x y : V} {d e : D} (rel : Rel K B ρ σ F H) (hT : H T = none) (h1 : Rp K F d x) (h2 : Rp K F e y) : ∃ F', Same F F' ∧ Rel K B ρ σ F' (upd H T (.tup [x, y])) ∧ Rp K F' (.tup [d, e]) (.ref T) := by
  have hf := rel.newF hT
  have sm : Same F (upd F T (.tup [x, y])) := same_upd hf
  exact ⟨_, sm, rel.put hT, T, [x, y], rfl, upd_same, x, [y], rfl, Rp.mono sm h1, y, [], rfl, Rp.mono sm h2, rfl⟩
theorem wk_enum {a : Addr} {vs : List V} {l : List D} (st : Still K B F1 a vs) (h : RpL K F1 l vs) : Wk K B F1 (Ite K a) (enumD 0 l) := by
  intro B3 wd ρ σ F H rel sm
  have q := st B3 wd ρ σ F H rel sm
  refine ⟨⟨vs, q, by rw [enum_len, h.length]; exact Nat.le_refl _⟩, fun i d hd => ?_⟩
  obtain ⟨d', hd', rfl⟩ := enum_get hd
  obtain ⟨v, hv, rv⟩ := h.get hd'
  refine ⟨⟨vs, v, q, hv⟩, fun x H' y => ?_⟩
  obtain ⟨T, z, rfl, hT, rfl, y⟩ := y
  have e := y vs q
  rw [hv] at e
  cases e
  exact pair_new rel hT (by rw [Nat.zero_add]; exact rfl) (Rp.mono sm rv)
theorem wk_enumT {a : Addr} {vs : List V} {l : List D} (st : SqT K F1 a vs) (h : RpL K F1 l vs) : Wk K B F1 (IteT K a) (enumD 0 l) := by
  intro B3 wd ρ σ F H rel sm
  have q : SqT K H a vs := Same.sqT (sm.trans rel.sub) st
  refine ⟨⟨vs, q, by rw [enum_len, h.length]⟩, fun i d hd => ?_⟩
  obtain ⟨d', hd', rfl⟩ := enum_get hd
  obtain ⟨v, hv, rv⟩ := h.get hd'
  refine ⟨⟨vs, v, q, hv⟩, fun x H' y => ?_⟩
  obtain ⟨T, z, rfl, hT, rfl, y⟩ := y
  have e := y vs q
  rw [hv] at e
  cases e
  exact pair_new rel hT (by rw [Nat.zero_add]; exact rfl) (Rp.mono sm rv)
theorem zip_get : ∀ {l m : List D} {i : Nat} {d : D}, (zipD l m)[i]? = some d → ∃ x y, l[i]? = some x ∧ m[i]? = some y ∧ d = .tup [x, y]
  | [], _, i, d, h => by simp [zipD] at h
  | _ :: _, [], i, d, h => by simp [zipD] at h
  | x :: xs, y :: ys, 0, d, h => by
    simp [zipD] at h
    exact ⟨x, y, rfl, rfl, h.symm⟩
  | x :: xs, y :: ys, i + 1, d, h => by
    have h' : (zipD xs ys)[i]? = some d := by simpa [zipD] using h
    obtain ⟨a, b, h1, h2, h3⟩ := zip_get h'
    exact ⟨a, b, by simpa using h1, by simpa using h2, h3⟩
theorem zip_len : ∀ (l m : List D), (zipD l m).length = min l.length m.length
  | [], m => by simp [zipD]
  | x :: xs, [] => by simp [zipD]
  | x :: xs, y :: ys => by
    simp only [zipD, List.length_cons, zip_len xs ys]
    omega
theorem wk_zip {a b : Addr} {vs ws : List V} {l m : List D} (st : Still K B F1 a vs) (st2 : Still K B F1 b ws) (h : RpL K F1 l vs) (g : RpL K F1 m ws) : Wk K B F1 (Itz K a b) (zipD l m) := by
  intro B3 wd ρ σ F H rel sm
  have q := st B3 wd ρ σ F H rel sm
  have q2 := st2 B3 wd ρ σ F H rel sm
  refine ⟨⟨vs, ws, q, q2, ?_⟩, fun i d hd => ?_⟩
  · rw [zip_len, h.length, g.length]
    omega
  obtain ⟨x1, y1, hx, hy, rfl⟩ := zip_get hd
  obtain ⟨v, hv, rv⟩ := h.get hx
  obtain ⟨w, hw, rw'⟩ := g.get hy
  refine ⟨⟨vs, ws, v, w, q, q2, hv, hw⟩, fun x H' y => ?_⟩
  obtain ⟨T, z, z2, rfl, hT, rfl, y, y2⟩ := y
  have e := y vs q
  have e2 := y2 ws q2
  rw [hv] at e
  rw [hw] at e2
  cases e
  cases e2
  exact pair_new rel hT (Rp.mono sm rv) (Rp.mono sm rw')
theorem wk_zipT {a b : Addr} {vs ws : List V} {l m : List D} (st : SqT K F1 a vs) (st2 : SqT K F1 b ws) (h : RpL K F1 l vs) (g : RpL K F1 m ws) : Wk K B F1 (RZ.ItzT K a b) (zipD l m) := by
  intro B3 wd ρ σ F H rel sm
  have q : SqT K H a vs := Same.sqT (sm.trans rel.sub) st
  have q2 : SqT K H b ws := Same.sqT (sm.trans rel.sub) st2
  refine ⟨⟨vs, ws, q, q2, ?_⟩, fun i d hd => ?_⟩
  · rw [zip_len, h.length, g.length]
    omega
  obtain ⟨x1, y1, hx, hy, rfl⟩ := zip_get hd
  obtain ⟨v, hv, rv⟩ := h.get hx
  obtain ⟨w, hw, rw'⟩ := g.get hy
  refine ⟨⟨vs, ws, v, w, q, q2, hv, hw⟩, fun x H' y => ?_⟩
  obtain ⟨T, z, z2, rfl, hT, rfl, y, y2⟩ := y
  have e := y vs q
  have e2 := y2 ws q2
  rw [hv] at e
  rw [hw] at e2
  cases e
  cases e2
  exact pair_new rel hT (Rp.mono sm rv) (Rp.mono sm rw')

/-! ### iterables -/
def TIok (U : Wd) (K : PySem.W.Frag) (k : Nat) (W : WX) (i : I) (wi : TI) : Prop := ∀ (B : Fx) (ρ : Rho) (σ : St) (F H : Hp) (Rr : It → Hp → Prop), Rel K B ρ σ F H →
  Po (evI (U.gm k) i ρ) (fun p => ∀ B' J F' H', Rel K B' p.2.2 σ F' H' → Same F F' → Wk K B' F' J p.1 → Back K B B' p.2.1 → Rr J H') (erE U K B σ W) → wi σ H Rr
def SI (U : Wd) (k : Nat) (c : Cc) (tg e : Expr) (i : I) : Prop := ∀ (X : Cx) (W : WX), XOk U k c X → Takes X W → ∃ wi, PI X tg e wi ∧ TIok U X.K k W i wi
theorem si_seq {tg e : Expr} {i : E} (se : SE U k c e i) : SI U k c tg e (.seq i) := by
  intro X W ok tk
  obtain ⟨t, p, h⟩ := se X W ok tk
  refine ⟨_, pi_seq p, fun B ρ σ F H Rr rel hp => ?_⟩
  rw [evI] at hp
  refine one h rel hp fun r ρ1 v F1 H1 rel1 s1 rs1 h1 => ?_
  obtain ⟨⟨l, js, ρ2⟩, e1, h2⟩ := Po.ofO' h1
  obtain ⟨B', a, vs, rfl, r2, bk, st, _⟩ := lend_ok rel1 rs1 (Same.refl F1) e1
  refine ⟨a, rfl, ?_⟩
  rcases st with ⟨rp, st | st⟩ | ⟨i, j, g1, rfl, g3, _⟩
  · exact .inl ⟨vs, st _ wid_refl _ _ _ _ r2 (Same.refl F1), h2 B' _ F1 H1 r2 s1 (wk_list st rp) bk⟩
  · exact .inr (.inl ⟨vs, Same.sqT r2.sub st, h2 B' _ F1 H1 r2 s1 (wk_tup st rp) bk⟩)
  · exact .inr (.inr ⟨i, j, r2.sub _ _ g1, g3, h2 B' _ F1 H1 r2 s1 wk_range bk⟩)
theorem si_rng1 {tg a : Expr} {a' : E} {p pos : Pos} (hc : c.blt "range" = true) (hs : noStar a = true) (sa : SE U k c a a') : SI U k c tg (.Call (.Name "range" p) [a] [] pos) (.rng1 a') := by
  intro X W ok tk
  obtain ⟨m1, m2, _⟩ := bltin_mg hc ok (by simp)
  obtain ⟨t, pa, h⟩ := sa X W ok tk
  refine ⟨_, pi_range1 m2 m1 (pa_cons pa pa_nil (star_of hs [] X.env)) (star_of hs [] X.env), fun B ρ σ F H Rr rel hp => ?_⟩
  rw [evI] at hp
  refine one h rel hp fun r ρ1 v F1 H1 rel1 s1 rs1 h1 => ?_
  obtain ⟨x, e1, h2⟩ := Po.ofO' h1
  obtain ⟨j, e2, h3⟩ := Po.ofO' h2
  obtain rfl := int_get e2
  have hv : v = .int j := rs1.read (Same.refl F1) rel1 e1
  subst hv
  by_cases z : -(2 ^ 62) ≤ j ∧ j < 2 ^ 62
  · rw [if_pos z] at h3
    refine ⟨j, rfl, z.1, z.2, ?_⟩
    have := h3 B (Itr 0 (j - 0).toNat) F1 H1 rel1 s1 wk_range back_nil
    simpa using this
  · rw [if_neg z] at h3
    exact h3.elim
theorem si_rng2 {tg a b : Expr} {a' b' : E} {p pos : Pos} (hc : c.blt "range" = true) (hs : noStar a = true) (hs2 : noStar b = true) (sa : SE U k c a a') (sb : SE U k c b b') : SI U k c tg (.Call (.Name "range" p) [a, b] [] pos) (.rng2 a' b') := by
  intro X W ok tk
  obtain ⟨m1, m2, _⟩ := bltin_mg hc ok (by simp)
  obtain ⟨ta, pa, ha⟩ := sa X W ok tk
  obtain ⟨tb, pb, hb⟩ := sb X W ok tk
  refine ⟨_, pi_range2 m2 m1 (pa_cons pa (pa_cons pb pa_nil (star_of hs2 [] X.env)) (star_of hs [b] X.env)) (by rw [star_of hs, star_of hs2]; rfl) (star_of hs2 [] X.env), fun B ρ σ F H Rr rel hp => ?_⟩
  rw [evI] at hp
  refine one ha rel hp fun r ρ1 v F1 H1 rel1 s1 rs1 h1 => ?_
  obtain ⟨x, e1, h2⟩ := Po.ofO' h1
  obtain ⟨i, e2, h3⟩ := Po.ofO' h2
  obtain rfl := int_get e2
  have hv : v = .int i := rs1.read (Same.refl F1) rel1 e1
  subst hv
  refine one hb rel1 h3 fun r2 ρ2 v2 F2 H2 rel2 s2 rs2 h4 => ?_
  obtain ⟨x2, e3, h5⟩ := Po.ofO' h4
  obtain ⟨j, e4, h6⟩ := Po.ofO' h5
  obtain rfl := int_get e4
  have hv2 : v2 = .int j := rs2.read (Same.refl F2) rel2 e3
  subst hv2
  by_cases z : -(2 ^ 62) ≤ i ∧ i < 2 ^ 62 ∧ -(2 ^ 62) ≤ j ∧ j < 2 ^ 62
  · rw [if_pos z] at h6
    exact ⟨i, j, rfl, z, h6 B (Itr i (j - i).toNat) F2 H2 rel2 (s1.trans s2) wk_range back_nil⟩
  · rw [if_neg z] at h6
    exact h6.elim
theorem si_enum {e : Expr} {i : E} {els : List Expr} {n : Nat} {tp p pos : Pos} (hc : c.blt "enumerate" = true) (hs : noStar e = true) (se : SE U k c e i) : SI U k c (.Tuple els n tp) (.Call (.Name "enumerate" p) [e] [] pos) (.enum i) := by
  intro X W ok tk
  obtain ⟨m1, m2, _⟩ := bltin_mg hc ok (by simp)
  obtain ⟨t, pe, h⟩ := se X W ok tk
  refine ⟨_, pi_enA m2 m1 (pa_cons pe pa_nil (star_of hs [] X.env)) (star_of hs [] X.env), fun B ρ σ F H Rr rel hp => ?_⟩
  rw [evI] at hp
  refine one h rel hp fun r ρ1 v F1 H1 rel1 s1 rs1 h1 => ?_
  obtain ⟨x0, e0, h1⟩ := Po.ofO' h1
  obtain ⟨⟨l, js, ρ2⟩, e1, h2⟩ := Po.ofO' h1
  obtain ⟨B', a, vs, rfl, r2, bk, st, _⟩ := lend_ok rel1 rs1 (Same.refl F1) e1
  refine ⟨a, vs, rfl, ?_⟩
  rcases st with ⟨rp, st | st⟩ | ⟨_, _, _, _, _, g4⟩
  rotate_left 2
  · rw [g4] at e0
    cases e0
  · exact .inl ⟨st _ wid_refl _ _ _ _ r2 (Same.refl F1), h2 B' _ F1 H1 r2 s1 (wk_enum st rp) bk⟩
  · exact .inr ⟨Same.sqT r2.sub st, h2 B' _ F1 H1 r2 s1 (wk_enumT st rp) bk⟩
theorem lend_fetch {r q : R} {l : List D} {js : List Nat} {ρ' : Rho} (h : PI.lend ρ r = some (l, js, ρ')) : fetch ρ' q = fetch ρ q := by
  have triv : ∀ {d : D}, (seq? d).map (fun l => (l, ([] : List Nat), ρ)) = some (l, js, ρ') → fetch ρ' q = fetch ρ q := fun {d} e => by
    obtain ⟨l', _, e2⟩ := map_some e
    cases e2
    rfl
  cases r with
  | dat d => exact triv h
  | fre d => exact triv h
  | pl i =>
    unfold PI.lend at h
    cases e : ρ[i]? with
    | none => simp [e] at h
    | some s =>
      cases s with
      | no => simp [e] at h
      | val d =>
        simp only [e] at h
        exact triv h
      | lent d =>
        cases d <;> simp [e] at h
        obtain ⟨_, _, rfl⟩ := h
        rfl
      | own m d =>
        match m with
        | m + 1 => simp [e] at h
        | 0 =>
          cases d <;> simp [e] at h
          obtain ⟨_, _, rfl⟩ := h
          cases q with
          | dat _ => rfl
          | fre _ => rfl
          | pl j =>
            have hlt : i < ρ.length := (List.getElem?_eq_some_iff.mp e).1
            by_cases z : i = j
            · subst z
              simp [fetch, e, List.getElem?_set_self hlt]
            · simp [fetch, List.getElem?_set_ne z]
theorem Rs.chB {ρ : Rho} {σ : St} {F H : Hp} {q : R} {v : V} (h : Rs K B ρ σ F H q.set v) : Rs K B' ρ σ F H q.set v := by
  cases q <;> exact h
theorem si_zip {a b : Expr} {a' b' : E} {els : List Expr} {n : Nat} {tp p pos : Pos} (hc : c.blt "zip" = true) (hs : noStar a = true) (hs2 : noStar b = true) (sa : SE U k c a a') (sb : SE U k c b b') : SI U k c (.Tuple els n tp) (.Call (.Name "zip" p) [a, b] [] pos) (.zip2 a' b') := by
  intro X W ok tk
  obtain ⟨m1, m2, _⟩ := bltin_mg hc ok (by simp)
  obtain ⟨ta, pa, ha⟩ := sa X W ok tk
  obtain ⟨tb, pb, hb⟩ := sb X W ok tk
  refine ⟨_, RZ.pi_zipA m2 m1 (pa_cons pa (pa_cons pb pa_nil (star_of hs2 [] X.env)) (star_of hs [b] X.env)) (star_of hs [b] X.env) (star_any [b] X.env pos (by rw [List.all_cons, hs2]; rfl)), fun B ρ σ F H Rr rel hp => ?_⟩
  rw [evI] at hp
  refine one ha rel hp fun r ρ1 v F1 H1 rel1 s1 rs1 h1 => one hb rel1 h1 fun q ρ2 u F2 H2 rel2 s2 rs2 h2 => ?_
  obtain ⟨x, e1, h3⟩ := Po.ofO' h2
  obtain ⟨y, e2, h4⟩ := Po.ofO' h3
  by_cases z : sameK x y = true
  · rw [if_pos z] at h4
    obtain ⟨⟨l, js, ρ3⟩, e3, h5⟩ := Po.ofO' h4
    obtain ⟨⟨m, is, ρ4⟩, e4, h6⟩ := Po.ofO' h5
    obtain ⟨B1, a1, vs, rfl, r3, bk1, st1, t1, l1, _⟩ := lend_ok rel2 rs1 s2 e3
    obtain ⟨B2, a2, ws, rfl, r4, bk2, st2, t2, l2, wd⟩ := lend_ok r3 (Rs.chB (B' := B1) rs2) (Same.refl F2) e4
    refine ⟨a1, a2, vs, ws, rfl, ?_⟩
    have e5 : fetch ρ3 q = some y := by rw [lend_fetch e3]; exact e2
    cases x with
    | lst xl =>
      cases y with
      | lst yl =>
        obtain ⟨k1, rp1⟩ := l1 _ e1 ⟨_, rfl⟩
        obtain ⟨k2, rp2⟩ := l2 _ e5 ⟨_, rfl⟩
        have k1' : Still X.K B2 F2 a1 vs := fun B3 w3 => k1 B3 (wd.trans w3)
        exact .inl ⟨k1 _ wid_refl _ _ _ _ r3 (Same.refl F2), k2 _ wid_refl _ _ _ _ r4 (Same.refl F2), h6 B2 _ F2 H2 r4 (s1.trans s2) (wk_zip k1' k2 rp1 rp2) (back_two bk1 bk2)⟩
      | _ => cases z
    | tup xl =>
      cases y with
      | tup yl =>
        obtain ⟨k1, rp1⟩ := t1 _ e1 ⟨_, rfl⟩
        obtain ⟨k2, rp2⟩ := t2 _ e5 ⟨_, rfl⟩
        exact .inr ⟨Same.sqT r3.sub k1, Same.sqT r4.sub k2, h6 B2 _ F2 H2 r4 (s1.trans s2) (wk_zipT k1 k2 rp1 rp2) (back_two bk1 bk2)⟩
      | _ => cases z
    | _ => cases z
  · rw [if_neg z] at h4
    exact h4.elim
end
end PI
/-! Targets. -/
namespace PI
open PySem L2
mutual
def tG (K : PySem.W.Frag) : G → TG
  | .name i => gName i
  | .tup gs => fun v σ H Q => gTup K gs.length (tGs K gs) v σ H Q ∨ gLst K gs.length (tGs K gs) v σ H Q
def tGs (K : PySem.W.Frag) : List G → TGs
  | [] => gNil
  | g :: gs => gCons (tG K g) (tGs K gs)
end
section
variable {U : Wd} {K : PySem.W.Frag} {k : Nat} {c : Cc} {X : Cx} {W : WX} {B B' : Fx} {ρ : Rho} {σ : St} {F F1 H : Hp}

/-- behind a change of one place -/
theorem set_back {α : Type} {l : List α} {i j : Nat} {s t : α} (e : (l.set i s)[j]? = some t) : (j = i ∧ t = s ∧ i < l.length) ∨ (j ≠ i ∧ l[j]? = some t) := by
  by_cases z : i = j
  · subst z
    by_cases h : i < l.length
    · rw [List.getElem?_set_self h] at e
      exact .inl ⟨rfl, (Option.some.inj e).symm, h⟩
    · rw [List.getElem?_eq_none (by rw [List.length_set]; omega)] at e
      cases e
  · rw [List.getElem?_set_ne z] at e
    exact .inr ⟨fun y => z y.symm, e⟩
theorem Rel.setVal (r : Rel K B ρ σ F H) (i : Nat) {d : D} {v : V} (h : Rp K F d v) : Rel K B (ρ.set i (.val d)) (σ.set i (some v)) F H := by
  have len := r.len
  have σo : ∀ {j : Nat}, j ≠ i → (σ.set i (some v))[j]? = σ[j]? := fun {j} e => List.getElem?_set_ne (fun z => e z.symm)
  refine ⟨r.sub, by rw [List.length_set, List.length_set]; exact r.len, fun j x e => ?_, fun j m x e => ?_, fun j x e => ?_, r.lnk, fun a b m x m' y p e1 e2 e3 e4 => ?_, r.keepH, r.keepF, r.grow, r.pin, r.tup⟩
  · rcases set_back e with ⟨rfl, e2, hl⟩ | ⟨n, e2⟩
    · cases e2
      exact ⟨v, List.getElem?_set_self (by omega), h⟩
    · rw [σo n]
      exact r.val j x e2
  · rcases set_back e with ⟨_, e2, _⟩ | ⟨n, e2⟩
    · cases e2
    · rw [σo n]
      exact r.own j m x e2
  · rcases set_back e with ⟨_, e2, _⟩ | ⟨n, e2⟩
    · cases e2
    · rw [σo n]
      exact r.lent j x e2
  · rcases set_back e1 with ⟨_, f1, _⟩ | ⟨n1, f1⟩
    · cases f1
    · rcases set_back e2 with ⟨_, f2, _⟩ | ⟨n2, f2⟩
      · cases f2
      · rw [σo n1] at e3
        rw [σo n2] at e4
        exact r.sep a b m x m' y p f1 f2 e3 e4
theorem wipe_get (σ : St) (j : Nat) : ∀ vs : List Nat, (wipe σ vs)[j]? = if j ∈ vs ∧ j < σ.length then some none else σ[j]?
  | [] => by simp [wipe]
  | v :: vs => by
    unfold wipe
    by_cases e : v = j
    · subst e
      by_cases h : v < σ.length
      · rw [List.getElem?_set_self (by rw [wipe_length]; exact h)]
        simp [h]
      · rw [List.getElem?_eq_none (by rw [List.length_set, wipe_length]; omega)]
        simp [h]
    · rw [List.getElem?_set_ne e, wipe_get σ j vs]
      have e' : ¬ j = v := fun z => e z.symm
      simp [e']
theorem wipe_set {i : Nat} {x : Option V} {vs : List Nat} (h : i ∈ vs) : wipe (σ.set i x) vs = wipe σ vs := by
  refine List.ext_getElem? fun j => ?_
  rw [wipe_get, wipe_get, List.length_set]
  by_cases e : i = j
  · subst e
    by_cases hl : i < σ.length
    · simp [h, hl]
    · simp [hl]
  · rw [List.getElem?_set_ne e]
theorem stVar_eq {i : Nat} {s : Sl} {ρ ρ' : Rho} (h : stVar i s ρ = some ρ') : ρ' = ρ.set i s ∧ i < ρ.length := by
  unfold stVar at h
  cases e : ρ[i]? with
  | none => simp [e] at h
  | some t =>
    have hl := (List.getElem?_eq_some_iff.mp e).1
    cases t with
    | no => simp [e] at h; exact ⟨h.symm, hl⟩
    | val d => simp [e] at h; exact ⟨h.symm, hl⟩
    | lent d => simp [e] at h
    | own m d =>
      match m with
      | 0 => simp [e] at h; exact ⟨h.symm, hl⟩
      | m + 1 => simp [e] at h
theorem bind_len : ∀ {gs : List G} {ds : List D} {ρ ρ' : Rho}, bindGs gs ds ρ = some ρ' → gs.length = ds.length
  | [], [], _, _, _ => rfl
  | [], _ :: _, _, _, h => by simp [bindGs] at h
  | _ :: _, [], _, _, h => by simp [bindGs] at h
  | g :: gs, d :: ds, ρ, ρ', h => by
    rw [bindGs] at h
    obtain ⟨ρ1, _, h2⟩ := Option.bind_eq_some_iff.mp h
    rw [List.length_cons, List.length_cons, bind_len h2]
mutual
theorem tG_ok : ∀ {g : G} {d : D} {v : V} {ρ ρ' : Rho} {σ : St} {Q : St → Hp → Prop}, Rel K B ρ σ F H → Rp K F d v → bindG g d ρ = some ρ' → (∀ σ', Rel K B ρ' σ' F H → (∀ vs, g.sub vs = true → wipe σ' vs = wipe σ vs) → Q σ' H) → tG K g v σ H Q
  | .name i, d, v, ρ, ρ', σ, Q, rel, hv, h, hq => by
    rw [bindG] at h
    obtain ⟨rfl, hl⟩ := stVar_eq h
    exact hq _ (rel.setVal i hv) fun vs hs => wipe_set (by simpa [G.sub] using hs)
  | .tup gs, .tup ds, v, ρ, ρ', σ, Q, rel, hv, h, hq => by
    rw [bindG] at h
    obtain ⟨a, vs, rfl, h1, h2⟩ := hv
    exact .inl ⟨a, vs, rfl, Same.tupT rel.sub h1, h2.length.symm.trans (bind_len h).symm, tGs_ok rel h2 h fun σ' r hw => hq σ' r fun vs hs => hw vs (by simpa [G.sub] using hs)⟩
  | .tup gs, .lst ds, v, ρ, ρ', σ, Q, rel, hv, h, hq => by
    rw [bindG] at h
    obtain ⟨a, vs, rfl, h1, h2⟩ := hv
    exact .inr ⟨a, vs, rfl, SqL.of (rel.sub _ _ h1), h2.length.symm.trans (bind_len h).symm, tGs_ok rel h2 h fun σ' r hw => hq σ' r fun vs hs => hw vs (by simpa [G.sub] using hs)⟩
  | .tup gs, .non, _, _, _, _, _, _, _, h, _ => by simp [bindG] at h
  | .tup gs, .bl _, _, _, _, _, _, _, _, h, _ => by simp [bindG] at h
  | .tup gs, .int _, _, _, _, _, _, _, _, h, _ => by simp [bindG] at h
  | .tup gs, .str _, _, _, _, _, _, _, _, h, _ => by simp [bindG] at h
  | .tup gs, .dic _ _ _, _, _, _, _, _, _, _, h, _ => by simp [bindG] at h
  | .tup gs, .gl _, _, _, _, _, _, _, _, h, _ => by simp [bindG] at h
  | .tup gs, .scr _, _, _, _, _, _, _, _, h, _ => by simp [bindG] at h
theorem tGs_ok : ∀ {gs : List G} {ds : List D} {vs : List V} {ρ ρ' : Rho} {σ : St} {Q : St → Hp → Prop}, Rel K B ρ σ F H → RpL K F ds vs → bindGs gs ds ρ = some ρ' → (∀ σ', Rel K B ρ' σ' F H → (∀ vs, G.subs gs vs = true → wipe σ' vs = wipe σ vs) → Q σ' H) → tGs K gs vs σ H Q
  | [], [], vs, ρ, ρ', σ, Q, rel, hv, h, hq => by
    rw [bindGs] at h
    cases h
    exact ⟨hv, hq σ rel fun _ _ => rfl⟩
  | [], _ :: _, _, _, _, _, _, _, _, h, _ => by simp [bindGs] at h
  | _ :: _, [], _, _, _, _, _, _, _, h, _ => by simp [bindGs] at h
  | g :: gs, d :: ds, vs, ρ, ρ', σ, Q, rel, hv, h, hq => by
    obtain ⟨v, r, rfl, h1, h2⟩ := hv
    rw [bindGs] at h
    obtain ⟨ρ1, e1, e2⟩ := Option.bind_eq_some_iff.mp h
    refine ⟨v, r, rfl, tG_ok rel h1 e1 fun σ1 r1 w1 => tGs_ok r1 h2 e2 fun σ2 r2 w2 => hq σ2 r2 fun vs hs => ?_⟩
    rw [G.subs, Bool.and_eq_true] at hs
    rw [w2 vs hs.2, w1 vs hs.1]
end

/-! ### the text's side -/
theorem assignEach_of {e : Expr} (h : noStar e = true) (es : List Expr) (env : Env) : assignEach (e :: es) env = (false, assign e env) :: assignEach es env := by
  cases e <;> first | rfl | cases h
theorem assignEach_all : ∀ {es : List Expr} (env : Env), es.all noStar = true → (assignEach es env).length = es.length ∧ (assignEach es env).findIdx? (·.1) = none
  | [], _, _ => ⟨rfl, rfl⟩
  | e :: es, env, h => by
    rw [List.all_cons, Bool.and_eq_true] at h
    obtain ⟨h1, h2⟩ := assignEach_all (es := es) env h.2
    rw [assignEach_of h.1]
    exact ⟨by rw [List.length_cons, List.length_cons, h1], by simp [List.findIdx?_cons, h2]⟩
theorem pg_or {tg : Expr} {t u : TG} (h : PG X tg t) (g : PG X tg u) : PG X tg (fun v σ H Q => t v σ H Q ∨ u v σ H Q) :=
  ⟨fun pins s σ H v w Q I r hw => hw.elim (h.run pins s σ H v w Q I r) (g.run pins s σ H v w Q I r)⟩
theorem mapM_cons_some {α β : Type} {f : α → Option β} {a : α} {l : List α} {r : List β} (h : (a :: l).mapM f = some r) : ∃ b r', f a = some b ∧ l.mapM f = some r' ∧ r = b :: r' := by
  rw [List.mapM_cons] at h
  cases e : f a with
  | none => simp [e] at h
  | some b =>
    cases e2 : l.mapM f with
    | none => simp [e, e2] at h
    | some r' =>
      simp [e, e2] at h
      exact ⟨b, r', rfl, rfl, h.symm⟩
theorem trG_star {n : Nat} {e : Expr} {g : G} (h : trG c n e = some g) : noStar e = true := by
  cases n with
  | zero => simp [trG] at h
  | succ n => cases e <;> first | rfl | simp [trG] at h
theorem trG_pgs {n : Nat} (ih : ∀ {e : Expr} {g : G}, trG c n e = some g → PG X e (tG X.K g)) : ∀ {es : List Expr} {gs : List G}, es.mapM (trG c n) = some gs → PGs X es (tGs X.K gs) ∧ es.all noStar = true ∧ es.length = gs.length
  | [], gs, h => by
    simp at h
    subst h
    exact ⟨pgs_nil, rfl, rfl⟩
  | e :: es, gs, h => by
    obtain ⟨g, gs', h1, h2, rfl⟩ := mapM_cons_some h
    obtain ⟨i1, i2, i3⟩ := trG_pgs ih h2
    have hs := trG_star h1
    refine ⟨?_, by rw [List.all_cons, hs, i2]; rfl, by rw [List.length_cons, List.length_cons, i3]⟩
    exact pgs_cons (ih h1) i1 (by rw [assignEach_of hs]; rfl)
theorem trG_pg (ok : XOk U k c X) : ∀ {n : Nat} {e : Expr} {g : G}, trG c n e = some g → PG X e (tG X.K g)
  | 0, _, _, h => by simp [trG] at h
  | n + 1, e, g, h => by
    cases e with
    | Name x p =>
      simp only [trG] at h
      obtain ⟨i, e1, rfl⟩ := map_some h
      unfold Cc.lslot at e1
      split at e1
      · rename_i z
        rw [Bool.and_eq_true] at z
        obtain ⟨t1, t2⟩ := ok.tgt x z.1
        exact pg_name ok.nd (by rw [ok.N]; exact ixIn_get e1) t1 t2
      · cases e1
    | Tuple es j p =>
      simp only [trG] at h
      obtain ⟨gs, e1, rfl⟩ := map_some h
      obtain ⟨h1, h2, h3⟩ := trG_pgs (trG_pg ok) e1
      obtain ⟨a1, a2⟩ := assignEach_all (es := es) X.env h2
      exact pg_or (pg_tup ok.calm h1 (a1.trans h3) a2) (pg_lst ok.calm h1 (a1.trans h3) a2)
    | _ => simp [trG] at h
end
end PI
/-! List comprehensions. -/
namespace PI
open PySem L2
/-- the list at a, held aside -/
def Fx.hold (B : Fx) (a : Addr) (o : HO) : Fx := { B with H0 := upd B.H0 a o }
/-- an address that the frame knows nothing of -/
structure Fre (B : Fx) (a : Addr) : Prop where
  h0 : B.H0 a = none
  f0 : B.F0 a = none
  pp : B.pp ≠ some a
  ln : ∀ j q, B.ln j = some q → ∃ o, B.H0 q = some o
def Off (ρ : Rho) (σ : St) (a : Addr) : Prop := ∀ (i m : Nat) (e : D), ρ[i]? = some (Sl.own m e) → σ[i]? ≠ some (some (V.ref a))
section
variable {U : Wd} {K : PySem.W.Frag} {k : Nat} {c : Cc} {X : Cx} {W : WX} {B B' : Fx} {ρ : Rho} {σ : St} {F F1 H : Hp} {a : Addr} {ws ws' : HO}
theorem Rel.fre (r : Rel K B ρ σ F H) (h0 : B.H0 a = none) (hf : F a = none) : Fre B a :=
  ⟨h0, Same.free r.grow hf, (fun z => by
    obtain ⟨_, o, e⟩ := r.pin a z
    rw [h0] at e
    cases e), r.lnk⟩
theorem hold_at : (B.hold a ws).H0 a = some ws := upd_same
theorem hold_ne {b : Addr} (h : b ≠ a) : (B.hold a ws).H0 b = B.H0 b := upd_ne h
theorem Fre.ne (f : Fre B a) {b : Addr} {o : HO} (h : B.H0 b = some o) : b ≠ a := fun z => by
  rw [z, f.h0] at h
  cases h
theorem hold_up (f : Fre B a) {b : Addr} {o : HO} (h : B.H0 b = some o) : (B.hold a ws).H0 b = some o := by
  rw [hold_ne (f.ne h)]
  exact h
theorem hold_dn {b : Addr} (h : (B.hold a ws).H0 b = none) : b ≠ a ∧ B.H0 b = none := by
  have ne : b ≠ a := fun z => by
    rw [z, hold_at] at h
    cases h
  rw [hold_ne ne] at h
  exact ⟨ne, h⟩
theorem wid_hold (f : Fre B a) : Wid B (B.hold a ws) := ⟨fun _ _ e => hold_up f e, rfl⟩
theorem Rel.hold (r : Rel K B ρ σ F H) (f : Fre B a) (hD : H a = some ws) (fD : F a = none) (hn : Off ρ σ a) : Rel K (B.hold a ws) ρ σ F H where
  sub := r.sub
  len := r.len
  val := r.val
  own := fun i m d e => by
    obtain ⟨q, o', h1, h2, h3, h4, h6, h7⟩ := r.own i m d e
    have ne : q ≠ a := fun z => hn i m d e (by rw [h2, z])
    exact ⟨q, o', h1, h2, h3, h4, h6, fun m1 => by rw [hold_ne ne]; exact h7 m1⟩
  lent := fun i d e => by
    obtain ⟨q, ds, vs, h1, h2, h3, h4, h5⟩ := r.lent i d e
    exact ⟨q, ds, vs, h1, h2, h3, hold_up f h4, h5⟩
  lnk := fun j q e => let ⟨o, h⟩ := r.lnk j q e; ⟨o, hold_up f h⟩
  sep := r.sep
  keepH := fun b u q z => by
    by_cases e : b = a
    · rw [e, hold_at] at q
      rw [e, hD]
      exact q
    · rw [hold_ne e] at q
      exact r.keepH b u q z
  keepF := fun b u q z => by
    by_cases e : b = a
    · rw [e]
      exact fD
    · rw [hold_ne e] at q
      exact r.keepF b u q z
  grow := r.grow
  pin := fun p e => ⟨(r.pin p e).1, let ⟨o, h⟩ := (r.pin p e).2; ⟨o, hold_up f h⟩⟩
  tup := r.tup
theorem Rel.unhold (r : Rel K (B.hold a ws) ρ σ F H) (f : Fre B a) : Rel K B ρ σ F H ∧ H a = some ws ∧ F a = none ∧ Off ρ σ a := by
  have hD := r.keepH a _ hold_at f.pp
  have fD := r.keepF a _ hold_at f.f0
  have off : Off ρ σ a := fun i m e q z => by
    obtain ⟨p, o', h1, h2, h3, h4, h6, h7⟩ := r.own i m e q
    rw [z] at h2
    cases h2
    by_cases m1 : m = 1
    · exact f.pp (h6 m1)
    · have y := h7 m1
      rw [hold_at] at y
      cases y
  refine ⟨⟨r.sub, r.len, r.val, fun i m d e => ?_, fun i d e => ?_, f.ln, r.sep, fun b u q z => r.keepH b u (hold_up f q) z, fun b u q z => r.keepF b u (hold_up f q) z, r.grow, fun p e => ⟨(r.pin p e).1, ?_⟩, r.tup⟩, hD, fD, off⟩
  · obtain ⟨q, o', h1, h2, h3, h4, h6, h7⟩ := r.own i m d e
    exact ⟨q, o', h1, h2, h3, h4, h6, fun m1 => (hold_dn (h7 m1)).2⟩
  · obtain ⟨q, ds, vs, h1, h2, h3, h4, h5, h6⟩ := r.lent i d e
    have h5' : B.ln i = some q := h5
    obtain ⟨o, ho⟩ := f.ln i q h5'
    have hh := hold_up (ws := ws) f ho
    rw [h4] at hh
    cases hh
    exact ⟨q, ds, vs, h1, h2, h3, ho, h5, h6⟩
  · obtain ⟨o, h⟩ := (r.pin p e).2
    have e' : B.pp = some p := e
    have ne : p ≠ a := fun z => f.pp (by rw [← z]; exact e')
    rw [hold_ne ne] at h
    exact ⟨o, h⟩
/-- a list that is in nobody's place is written -/
theorem Rel.write (r : Rel K B ρ σ F H) (f : Fre B a) (fD : F a = none) (hn : Off ρ σ a) {o : HO} (nt : ∀ vs, o ≠ .tup vs := by intro _ z; cases z) : Rel K B ρ σ F (upd H a o) where
  sub := fun b u q => by
    have ne : b ≠ a := fun z => by
      rw [z, fD] at q
      cases q
    rw [upd_ne ne]
    exact r.sub b u q
  len := r.len
  val := r.val
  own := fun i m d e => by
    obtain ⟨q, o', h1, h2, h3, h4, h5⟩ := r.own i m d e
    have ne : q ≠ a := fun z => hn i m d e (by rw [h2, z])
    exact ⟨q, o', h1, h2, h3, by rw [upd_ne ne]; exact h4, h5⟩
  lent := r.lent
  lnk := r.lnk
  sep := r.sep
  keepH := fun b u q z => by
    rw [upd_ne (f.ne q)]
    exact r.keepH b u q z
  keepF := r.keepF
  grow := r.grow
  pin := fun p e => by
    obtain ⟨⟨vs, h⟩, o', h2⟩ := r.pin p e
    exact ⟨⟨vs, by rw [upd_ne (f.ne h2)]; exact h⟩, o', h2⟩
  tup := r.tup.upd nt
theorem Rel.rehold (r : Rel K (B.hold a ws) ρ σ F H) (f : Fre B a) (nt : ∀ vs, ws' ≠ .tup vs := by intro _ z; cases z) : Rel K (B.hold a ws') ρ σ F (upd H a ws') := by
  obtain ⟨r1, _, h2, h3⟩ := r.unhold f
  exact (r1.write f h2 h3 nt).hold f upd_same h2 h3

/-! ### names forgotten and back -/
theorem wipeR_len (ρ : Rho) : ∀ vs : List Nat, (wipeR ρ vs).length = ρ.length
  | [] => rfl
  | v :: vs => by
    show ((wipeR ρ vs).set v .no).length = _
    rw [List.length_set, wipeR_len ρ vs]
theorem wipeR_get (ρ : Rho) (j : Nat) : ∀ vs : List Nat, (wipeR ρ vs)[j]? = if j ∈ vs ∧ j < ρ.length then some .no else ρ[j]?
  | [] => by simp [wipeR]
  | v :: vs => by
    show ((wipeR ρ vs).set v .no)[j]? = _
    by_cases e : v = j
    · subst e
      by_cases h : v < ρ.length
      · rw [List.getElem?_set_self (by rw [wipeR_len]; exact h)]
        simp [h]
      · rw [List.getElem?_eq_none (by rw [List.length_set, wipeR_len]; omega)]
        simp [h]
    · rw [List.getElem?_set_ne e, wipeR_get ρ j vs]
      have e' : ¬ j = v := fun z => e z.symm
      simp [e']
theorem wipeR_some {ρ : Rho} {vs : List Nat} {j : Nat} {s : Sl} (h : (wipeR ρ vs)[j]? = some s) (hs : s ≠ .no) : ρ[j]? = some s ∧ j ∉ vs := by
  rw [wipeR_get] at h
  by_cases e : j ∈ vs ∧ j < ρ.length
  · rw [if_pos e] at h
    cases h
    exact absurd rfl hs
  · rw [if_neg e] at h
    refine ⟨h, fun z => e ⟨z, (List.getElem?_eq_some_iff.mp h).1⟩⟩
theorem Rel.wipe (r : Rel K B ρ σ F H) (vs : List Nat) : Rel K B (wipeR ρ vs) (L2.wipe σ vs) F H where
  sub := r.sub
  len := by rw [wipeR_len, wipe_length]; exact r.len
  val := fun i d e => by
    obtain ⟨e1, e2⟩ := wipeR_some e (by simp)
    rw [wipe_out e2]
    exact r.val i d e1
  own := fun i m d e => by
    obtain ⟨e1, e2⟩ := wipeR_some e (by simp)
    rw [wipe_out e2]
    exact r.own i m d e1
  lent := fun i d e => by
    obtain ⟨e1, e2⟩ := wipeR_some e (by simp)
    rw [wipe_out e2]
    exact r.lent i d e1
  lnk := r.lnk
  sep := fun i j m d m' d' p e1 e2 e3 e4 => by
    obtain ⟨f1, g1⟩ := wipeR_some e1 (by simp)
    obtain ⟨f2, g2⟩ := wipeR_some e2 (by simp)
    rw [wipe_out g1] at e3
    rw [wipe_out g2] at e4
    exact r.sep i j m d m' d' p f1 f2 e3 e4
  keepH := r.keepH
  keepF := r.keepF
  grow := r.grow
  pin := r.pin
  tup := r.tup
theorem wipe_twice (σ : St) (vs : List Nat) : L2.wipe (L2.wipe σ vs) vs = L2.wipe σ vs := by
  refine List.ext_getElem? fun j => ?_
  rw [wipe_get, wipe_length]
  by_cases h : j ∈ vs ∧ j < σ.length
  · rw [if_pos h, wipe_get, if_pos h]
  · rw [if_neg h]
theorem backR_len (ρ ρ' : Rho) : ∀ vs : List Nat, (backR ρ ρ' vs).length = ρ'.length
  | [] => rfl
  | v :: vs => by
    show ((backR ρ ρ' vs).set v _).length = _
    rw [List.length_set, backR_len ρ ρ' vs]
theorem backR_get (ρ ρ' : Rho) (j : Nat) : ∀ vs : List Nat, (backR ρ ρ' vs)[j]? = if j ∈ vs ∧ j < ρ'.length then some (ρ[j]?.getD .no) else ρ'[j]?
  | [] => by simp [backR]
  | v :: vs => by
    show ((backR ρ ρ' vs).set v (ρ[v]?.getD .no))[j]? = _
    by_cases e : v = j
    · subst e
      by_cases h : v < ρ'.length
      · rw [List.getElem?_set_self (by rw [backR_len]; exact h)]
        simp [h]
      · rw [List.getElem?_eq_none (by rw [List.length_set, backR_len]; omega)]
        simp [h]
    · rw [List.getElem?_set_ne e, backR_get ρ ρ' j vs]
      have e' : ¬ j = v := fun z => e z.symm
      simp [e']
theorem noOwn_at {vs : List Nat} {i : Nat} {s : Sl} (h : noOwn ρ vs = true) (hi : i ∈ vs) (e : ρ[i]?.getD .no = s) : s = .no ∨ ∃ d, s = .val d ∧ ρ[i]? = some (.val d) := by
  unfold noOwn at h
  have q := List.all_eq_true.mp h i hi
  cases z : ρ[i]? with
  | none => simp [z] at q
  | some t =>
    rw [z] at e q
    have e' : t = s := e
    subst e'
    cases t with
    | no => exact .inl rfl
    | val d => exact .inr ⟨d, rfl, rfl⟩
    | own m d => simp at q
    | lent d => simp at q
theorem Rel.backR {ρ' : Rho} {F0 H0 : Hp} (r : Rel K B ρ' (L2.wipe σ vs) F H) (r0 : Rel K B' ρ σ F0 H0) (sm : Same F0 F) (hn : noOwn ρ vs = true) : Rel K B (PI.backR ρ ρ' vs) σ F H := by
  have back : ∀ {j : Nat} {s : Sl}, (PI.backR ρ ρ' vs)[j]? = some s → s ≠ .no → (∃ d, s = .val d ∧ ρ[j]? = some (.val d)) ∨ (ρ'[j]? = some s ∧ (L2.wipe σ vs)[j]? = σ[j]?) := fun {j s} e ns => by
    rw [backR_get] at e
    by_cases h : j ∈ vs ∧ j < ρ'.length
    · rw [if_pos h] at e
      rcases noOwn_at hn h.1 (Option.some.inj e) with z | z
      · exact absurd z ns
      · exact .inl z
    · rw [if_neg h] at e
      exact .inr ⟨e, wipe_out fun z => h ⟨z, (List.getElem?_eq_some_iff.mp e).1⟩⟩
  have len := r.len
  rw [wipe_length] at len
  refine ⟨r.sub, by rw [backR_len]; exact len, fun i d e => ?_, fun i m d e => ?_, fun i d e => ?_, r.lnk, fun i j m d m' d' p e1 e2 e3 e4 => ?_, r.keepH, r.keepF, r.grow, r.pin, r.tup⟩
  · rcases back e (by simp) with ⟨d', h, e1⟩ | ⟨e1, e2⟩
    · cases h
      obtain ⟨v, h1, h2⟩ := r0.val i d e1
      exact ⟨v, h1, Rp.mono sm h2⟩
    · rw [← e2]
      exact r.val i d e1
  · rcases back e (by simp) with ⟨d', h, e1⟩ | ⟨e1, e2⟩
    · cases h
    · rw [← e2]
      exact r.own i m d e1
  · rcases back e (by simp) with ⟨d', h, e1⟩ | ⟨e1, e2⟩
    · cases h
    · rw [← e2]
      exact r.lent i d e1
  · rcases back e1 (by simp) with ⟨_, h, _⟩ | ⟨f1, g1⟩
    · cases h
    · rcases back e2 (by simp) with ⟨_, h, _⟩ | ⟨f2, g2⟩
      · cases h
      · rw [← g1] at e3
        rw [← g2] at e4
        exact r.sep i j m d m' d' p f1 f2 e3 e4
theorem Off.backR {ρ' : Rho} {vs : List Nat} (h : Off ρ' (L2.wipe σ vs) a) (hn : noOwn ρ vs = true) : Off (PI.backR ρ ρ' vs) σ a := fun i m e q => by
  rw [backR_get] at q
  by_cases z : i ∈ vs ∧ i < ρ'.length
  · rw [if_pos z] at q
    rcases noOwn_at hn z.1 (Option.some.inj q) with y | ⟨_, y, _⟩ <;> cases y
  · rw [if_neg z] at q
    have := h i m e q
    rwa [wipe_out fun y => z ⟨y, (List.getElem?_eq_some_iff.mp q).1⟩] at this

/-! ### tests of a clause -/
def evC (Γ : Gm) (co : Option E) (ρ : Rho) : Out (Bool × Rho) := match co with
  | some c => trO (ev Γ c ρ)
  | none => pure (true, ρ)
def TCok (U : Wd) (K : PySem.W.Frag) (k : Nat) (co : Option E) (t : TT) : Prop := ∀ (B : Fx) (ρ ρ' : Rho) (b : Bool) (σ : St) (F H : Hp) (Q : Bool → Hp → Prop), Rel K B ρ σ F H → evC (U.gm k) co ρ = .ok (b, ρ') → (∀ F' H', Rel K B ρ' σ F' H' → Same F F' → Q b H') → t σ H Q
def W0 : WX := fun _ _ _ _ => False
theorem to_none : TCok U K k none tYes := fun B ρ ρ' b σ F H Q rel e hq => by
  have e' : Out.ok (true, ρ) = Out.ok (b, ρ') := e
  cases e'
  exact hq F H rel (Same.refl F)
theorem to_some {e : E} {t : TT} (h : TTok U K k W0 e t) : TCok U K k (some e) t := fun B ρ ρ' b σ F H Q rel e hq => by
  refine h B ρ σ F H Q rel ?_
  have e' : trO (ev (U.gm k) _ ρ) = Out.ok (b, ρ') := e
  rw [e']
  exact hq
/-- one turn -/
def turnF (Γ : Gm) (elt : E) (g : G) (co : Option E) (vs : List Nat) (x : D) (ρ : Rho) : Out (Option D × Rho) := do
  let ρ ← ofO (bindG g x ρ)
  let (b, ρ) ← evC Γ co ρ
  if b then
    let (r, ρ) ← ev Γ elt ρ
    let (y, ρ) ← ofO (give ρ r)
    pure (some y, wipeR ρ vs)
  else pure (none, wipeR ρ vs)
theorem ev_comp (Γ : Gm) (elt : E) (g : G) (it : I) (co : Option E) (vs : List Nat) (ρ : Rho) : ev Γ (.comp elt g it co vs) ρ = (evI Γ it ρ >>= fun q =>
    if noOwn q.2.2 vs then noErr (mapF (turnF Γ elt g co vs) q.1 (wipeR q.2.2 vs)) >>= fun p => ofO (unlends q.2.1 (backR q.2.2 p.2 vs)) >>= fun ρ2 => if p.1.length ≤ sizeLine then pure (.fre (.lst p.1), ρ2) else .bad
    else .bad) := by
  rw [ev]
  cases co <;> rfl
theorem turn_ok {Γ : Gm} {elt : E} {g : G} {co : Option E} {vs : List Nat} {x : D} {ρ ρ' : Rho} {y : Option D} (h : turnF Γ elt g co vs x ρ = .ok (y, ρ')) :
    ∃ ρa b ρb, bindG g x ρ = some ρa ∧ evC Γ co ρa = .ok (b, ρb) ∧ ((b = false ∧ y = none ∧ ρ' = wipeR ρb vs) ∨ (b = true ∧ ∃ r ρc z ρd, ev Γ elt ρb = .ok (r, ρc) ∧ give ρc r = some (z, ρd) ∧ y = some z ∧ ρ' = wipeR ρd vs)) := by
  unfold turnF at h
  cases e1 : bindG g x ρ with
  | none => simp [e1] at h
  | some ρa =>
    cases e2 : evC Γ co ρa with
    | err c pl r => simp [e1, e2] at h
    | bad => simp [e1, e2] at h
    | ok p =>
      obtain ⟨b, ρb⟩ := p
      refine ⟨ρa, b, ρb, rfl, e2, ?_⟩
      cases b with
      | false =>
        simp [e1, e2] at h
        exact .inl ⟨rfl, h.1.symm, h.2.symm⟩
      | true =>
        cases e3 : ev Γ elt ρb with
        | err c pl r => simp [e1, e2, e3] at h
        | bad => simp [e1, e2, e3] at h
        | ok q =>
          obtain ⟨r, ρc⟩ := q
          cases e4 : give ρc r with
          | none => simp [e1, e2, e3, e4] at h
          | some z =>
            simp [e1, e2, e3, e4] at h
            exact .inr ⟨rfl, r, ρc, z.1, z.2, rfl, e4, h.1.symm, h.2.symm⟩
theorem mapF_cons {f : D → Rho → Out (Option D × Rho)} {x : D} {xs : List D} {ρ : Rho} {q : List D × Rho} (h : mapF f (x :: xs) ρ = .ok q) : ∃ y ρ' q', f x ρ = .ok (y, ρ') ∧ mapF f xs ρ' = .ok q' ∧ q = ((match y with | some y => y :: q'.1 | none => q'.1), q'.2) := by
  rw [mapF] at h
  cases e1 : f x ρ with
  | err c pl r => simp [e1] at h
  | bad => simp [e1] at h
  | ok p =>
    cases e2 : mapF f xs p.2 with
    | err c pl r => simp [e1, e2] at h
    | bad => simp [e1, e2] at h
    | ok q' =>
      simp [e1, e2] at h
      exact ⟨p.1, p.2, q', rfl, e2, h.symm⟩
theorem lc_ok {it : I} {g : G} {co : Option E} {elt : E} {vs : List Nat} {wi : TI} {tt : TT} {te : TE} (hi : TIok U K k W it wi) (ht : TCok U K k co tt) (he : TEok U K k W0 elt te) (hg : g.sub vs = true) : TEok U K k W (.comp elt g it co vs) (tLc wi (tG K g) tt te vs) := by
  intro B ρ σ F H Q rel h
  rw [ev_comp] at h
  refine hi B ρ σ F H _ rel (Po.mono (Po.bind h) (fun q hq => ?_) fun _ _ _ e => e)
  obtain ⟨l, rs, ρ1⟩ := q
  intro B' J F1 H1 rel1 s1 wk bk D hD
  simp only at hq
  by_cases hn : noOwn ρ1 vs = true
  case neg =>
    rw [if_neg hn] at hq
    exact hq.elim
  rw [if_pos hn] at hq
  cases e : mapF (turnF (U.gm k) elt g co vs) l (wipeR ρ1 vs) with
  | err cc pl r =>
    rw [e] at hq
    exact hq.elim
  | bad =>
    rw [e] at hq
    exact hq.elim
  | ok p =>
  rw [e] at hq
  obtain ⟨ρ3, e3, hq⟩ := Po.ofO' (show Po (ofO (unlends rs (backR ρ1 p.2 vs)) >>= fun ρ2 => if p.1.length ≤ sizeLine then pure (R.fre (.lst p.1), ρ2) else .bad) (okE K B σ F Q) (erE U K B σ W) from hq)
  by_cases hz : p.1.length ≤ sizeLine
  case neg =>
    rw [if_neg hz] at hq
    exact hq.elim
  rw [if_pos hz] at hq
  have fD := rel1.newF hD
  have h0 := rel1.new0 hD
  have fr : Fre B' D := rel1.fre h0 fD
  have off1 : Off ρ1 σ D := rel1.notOwn hD
  let Inv : Nat → Hp → Prop := fun i H2 => ∃ ρ2 F2 ds ws q, Rel K (B'.hold D (.lst ws)) ρ2 (wipe σ vs) F2 H2 ∧ Same F1 F2 ∧ RpL K F2 ds ws ∧ mapF (turnF (U.gm k) elt g co vs) (l.drop i) ρ2 = .ok q ∧ p = (ds ++ q.1, q.2)
  have init : Inv 0 (upd H1 D (.lst [])) := by
    have r2 := (rel1.lay (o := .lst []) hD).wipe vs
    have off2 : Off (wipeR ρ1 vs) (wipe σ vs) D := fun i m d q => by
      obtain ⟨e1, e2⟩ := wipeR_some q (by simp)
      rw [wipe_out e2]
      exact off1 i m d e1
    exact ⟨wipeR ρ1 vs, F1, [], [], p, r2.hold fr upd_same fD off2, Same.refl F1, rfl, e, rfl⟩
  refine ⟨fun i m H2 => m = l.length - i ∧ i ≤ l.length ∧ Inv i H2, ⟨l.length, by simp, Nat.zero_le _, init⟩, ?_⟩
  rintro i m H2 ⟨rfl, hi', ρ2, F2, ds, ws, q, r2, s2, rp, em, ep⟩
  obtain ⟨stop, walk⟩ := wk _ (wid_hold fr) ρ2 _ F2 H2 r2 s2
  by_cases hlt : i < l.length
  · obtain ⟨go, yl⟩ := walk i l[i] (List.getElem?_eq_getElem hlt)
    refine .inr ⟨go, Inv (i + 1), fun H' inv => ⟨l.length - (i + 1), by omega, rfl, hlt, inv⟩, fun x H3 y => ?_⟩
    obtain ⟨F3, s3, r3, rx⟩ := yl x H3 y
    rw [List.drop_eq_getElem_cons hlt] at em
    obtain ⟨yo, ρ', q', m1, m2, m3⟩ := mapF_cons em
    obtain ⟨ρa, b, ρb, b1, b2, b3⟩ := turn_ok m1
    refine tG_ok r3 rx b1 fun σ2 r4 hw => ⟨(hw vs hg).trans (wipe_twice σ vs), ht _ ρa ρb b σ2 F3 H3 _ r4 b2 fun F4 H4 r5 s4 => ?_⟩
    have hw2 : wipe σ2 vs = wipe σ vs := (hw vs hg).trans (wipe_twice σ vs)
    rcases b3 with ⟨rfl, rfl, rfl⟩ | ⟨rfl, r, ρc, z, ρd, c1, c2, rfl, rfl⟩
    · rw [if_neg (by simp)]
      have r6 := r5.wipe vs
      rw [hw2] at r6
      exact ⟨_, F4, ds, ws, q', r6, (s2.trans s3).trans s4, RpL.mono (s3.trans s4) rp, m2, by rw [ep, m3]⟩
    · rw [if_pos rfl]
      refine he _ ρb σ2 F4 H4 _ r5 ?_
      rw [c1]
      intro v F5 H5 r6 s5 rs5
      obtain ⟨F6, s6, r7, rs6⟩ := rs5.settle r6
      obtain ⟨F7, s7, r8, rz⟩ := rs6.give r7 c2
      obtain ⟨_, hD5, _, _⟩ := r8.unhold fr
      have sall : Same F2 F7 := (((s3.trans s4).trans s5).trans s6).trans s7
      have r9 := r8.wipe vs
      rw [hw2] at r9
      refine ⟨ws, hD5, ?_, _, F7, ds ++ [z], ws ++ [v], q', r9.rehold fr, s2.trans sall, RpL.append (RpL.mono sall rp) (RpL.one rz), m2, ?_⟩
      · rw [ep, m3] at hz
        rw [← rp.length]
        simp at hz
        omega
      · rw [ep, m3]
        simp
  · have ei : i = l.length := by omega
    subst ei
    refine .inl ⟨stop, ?_⟩
    rw [List.drop_length, mapF] at em
    cases em
    rw [List.append_nil] at ep
    subst ep
    obtain ⟨r3, hD3, fD3, off3⟩ := r2.unhold fr
    have r4 := r3.backR rel1 s2 hn
    have off4 := off3.backR hn
    have r5 := bk.rel _ _ _ _ _ r4 e3
    have off5 := bk.off D h0 _ _ _ _ _ r4 e3 off4
    exact hq _ F2 H2 r5 (s1.trans s2) (Rs.ofL ⟨D, ds, ws, rfl, rfl, hD3, fD3, bk.wid.free h0, rp, off5⟩)

/-! ### the text's side -/
theorem pe_uni {ι : Type} {Y : ι → Cx} {e : Expr} {i : E} {V : WX} [Nonempty ι] (h : ∀ j, ∃ t, PE (Y j) e t ∧ TEok U K k V i t) : ∃ t, (∀ j, PE (Y j) e t) ∧ TEok U K k V i t :=
  ⟨fun σ H Q => ∀ j, Classical.choose (h j) σ H Q, fun j => ⟨fun pins s σ H Q I hw => (Classical.choose_spec (h j)).1.run pins s σ H Q I (hw j)⟩, fun B ρ σ F H Q rel hp j => (Classical.choose_spec (h j)).2 B ρ σ F H Q rel hp⟩
theorem pts_uni {ι : Type} {Y : ι → Cx} {e : List Expr} {co : Option E} (h : ∀ j, ∃ t, PTs (Y j) e t ∧ TCok U K k co t) : ∃ t, (∀ j, PTs (Y j) e t) ∧ TCok U K k co t :=
  ⟨fun σ H Q => ∀ j, Classical.choose (h j) σ H Q, fun j => ⟨fun pins s σ H Q I hw => (Classical.choose_spec (h j)).1.run pins s σ H Q I (hw j)⟩, fun B ρ ρ' b σ F H Q rel hp hq j => (Classical.choose_spec (h j)).2 B ρ ρ' b σ F H Q rel hp hq⟩
/-- where a block's code stands -/
structure Blk where
  s : Shared
  H : Hp
  C : Addr
  cl : List (Str × Addr)
  fp : List Addr
abbrev Blk.cx (b : Blk) (X : Cx) (scope : Scope) : Cx := X.blk b.s b.H scope (compEnvC scope b.cl b.C X.env) b.fp
def Cc.blk (c : Cc) (scope : Scope) : Cc := { c with sc := relS scope c.sc, ts := scope }
theorem blk_ok {scope : Scope} {own : List (Str × Nat)} (ok : XOk U k c X) (hb : BlkOk c.N c.sc scope own) (b : Blk) : XOk U k (c.blk scope) (b.cx X scope) where
  P := ok.P
  w := ok.w
  K := ok.K
  mg := ok.mg
  base := ok.base
  nm := ok.nm
  N := ok.N
  nd := ok.nd
  sc := by
    show (compEnvC scope b.cl b.C X.env).scope = relS scope c.sc
    rw [← ok.sc]
    rfl
  fnk := hb.kind
  calm := ok.calm
  room := ok.room
  grd := ok.grd
  ok := ok.ok
  calls := ok.calls
  tgt := fun x hx => by
    have key : ∀ kk, kk ≠ NameKind.free → scope.names.lookup x = some kk → (compEnvC scope b.cl b.C X.env).scope.names.lookup x = some kk := fun kk nk e => lookup_relS_keep (sc := X.env.scope) nk e
    have hx' : loc scope x = true := hx
    unfold loc at hx'
    split at hx'
    · rename_i e
      exact ⟨.inl (key _ (by simp) e), .inr (key _ (by simp) e)⟩
    · rename_i e
      exact ⟨.inr (key _ (by simp) e), .inl (by show (scope.names.lookup x == some NameKind.cell) = true; rw [e]; rfl)⟩
    · cases hx'
instance : Nonempty Blk := ⟨⟨Classical.choice ⟨{ heap := default, toks := 0, os := default }⟩, fun _ => none, 0, [], []⟩⟩
def SCo (U : Wd) (k : Nat) (c : Cc) (ifs : List Expr) (co : Option E) : Prop := ∀ (X : Cx), XOk U k c X → Takes X W0 → ∃ t, PTs X ifs t ∧ TCok U X.K k co t
theorem sco_nil : SCo U k c [] none := fun X ok tk => ⟨_, pts_nil, to_none⟩
theorem sco_one {e : Expr} {i : E} (h : ST U k c e i) : SCo U k c [e] (some i) := fun X ok tk =>
  let ⟨t, p, q⟩ := h X W0 ok tk
  ⟨t, pts_one p, to_some q⟩
theorem noSet_ok {e : Expr} (h : noSet e = true) (env : Env) (x : Value) : foldedSetIterable e env x = pure x := by
  cases e <;> first | rfl | cases h
/-- a comprehension, whole: target, clause, tests, element, its own names -/
structure SLc (U : Wd) (k : Nat) (c : Cc) (elt tg iter : Expr) (ifs : List Expr) (scope : Scope) (e : E) (g : G) (it : I) (co : Option E) (own : List (Str × Nat)) : Prop where
  it : SI U k c tg iter it
  set : noSet iter = true
  blk : blkC c.N c.sc scope own = true
  gt : ∃ n, trG (c.blk scope) n tg = some g
  sub : g.sub (own.map (·.2)) = true
  co : SCo U k (c.blk scope) ifs co
  elt : SE U k (c.blk scope) elt e
theorem SLc.parts {elt tg iter : Expr} {ifs : List Expr} {scope : Scope} {e : E} {g : G} {it : I} {co : Option E} {own : List (Str × Nat)} (S : SLc U k c elt tg iter ifs scope e g it co own) (ok : XOk U k c X) (tk : Takes X W) :
    BlkOk X.N X.env.scope scope own ∧ ∃ wi tt te, PI X tg iter wi ∧ (∀ b : Blk, PG (b.cx X scope) tg (tG X.K g)) ∧ (∀ b : Blk, PTs (b.cx X scope) ifs tt) ∧ (∀ b : Blk, PE (b.cx X scope) elt te) ∧ TEok U X.K k W (.comp e g it co (own.map (·.2))) (tLc wi (tG X.K g) tt te (own.map (·.2))) := by
  have hb : BlkOk c.N c.sc scope own := blkOk_by S.blk
  obtain ⟨n, hg⟩ := S.gt
  obtain ⟨wi, p1, h1⟩ := S.it X W ok tk
  obtain ⟨tt, p2, h2⟩ := pts_uni (Y := fun b : Blk => b.cx X scope) (fun b => S.co _ (blk_ok ok hb b) takes0)
  obtain ⟨te, p3, h3⟩ := pe_uni (Y := fun b : Blk => b.cx X scope) (V := W0) (fun b => S.elt _ _ (blk_ok ok hb b) takes0)
  refine ⟨by rw [ok.N, ok.sc]; exact hb, wi, tt, te, p1, fun b => trG_pg (blk_ok ok hb b) hg, p2, p3, lc_ok h1 h2 h3 S.sub⟩
theorem s_lc {elt tg iter : Expr} {ifs : List Expr} {scope : Scope} {e : E} {g : G} {it : I} {co : Option E} {own : List (Str × Nat)} {pos : Pos} (S : SLc U k c elt tg iter ifs scope e g it co own) :
    SE U k c (.ListComp elt [⟨tg, iter, ifs, 0⟩] scope pos) (.comp e g it co (own.map (·.2))) := by
  intro X W ok tk
  obtain ⟨hb, wi, tt, te, p1, p2, p3, p4, h⟩ := S.parts ok tk
  exact ⟨_, pe_lc ok.calm ok.nd p1 hb (fun s H C cl fp => p2 ⟨s, H, C, cl, fp⟩) (fun s H C cl fp => p3 ⟨s, H, C, cl, fp⟩) (fun s H C cl fp => p4 ⟨s, H, C, cl, fp⟩) (noSet_ok S.set X.env), h⟩
end
end PI
/-! Statements. -/
namespace PI
open PySem L2

def okS (K : PySem.W.Frag) (B : Fx) (D : Ends) : Fl → Prop
  | .nx ρ => ∀ σ F H, Rel K B ρ σ F H → D.nx σ H
  | .ct ρ => ∀ σ F H, Rel K B ρ σ F H → D.ct σ H
  | .bk ρ => ∀ σ F H, Rel K B ρ σ F H → D.bk σ H
  | .rt r ρ => ∀ v σ F H, Rel K B ρ σ F H → Rs K B ρ σ F H r v → D.rt v H
def erS (U : Wd) (K : PySem.W.Frag) (B : Fx) (W : WX) (c : Nat) (pl : List D) (ρ : Rho) : Prop := ∀ σ F H, Rel K B ρ σ F H → W (.ref (U.ca c)) none σ H
def TSok (U : Wd) (K : PySem.W.Frag) (k : Nat) (W : WX) (s : S) (t : TS) : Prop := ∀ (B : Fx) (ρ : Rho) (σ : St) (F H : Hp) (D : Ends), Rel K B ρ σ F H → Po (exS (U.gm k) s ρ) (okS K B D) (erS U K B W) → t D σ H
def TSSok (U : Wd) (K : PySem.W.Frag) (k : Nat) (W : WX) (s : List S) (t : TS) : Prop := ∀ (B : Fx) (ρ : Rho) (σ : St) (F H : Hp) (D : Ends), Rel K B ρ σ F H → Po (exSs (U.gm k) s ρ) (okS K B D) (erS U K B W) → t D σ H
/-- where statements stand -/
structure SXOk (U : Wd) (k : Nat) (c : Cc) (X : Cx) : Prop extends XOk U k c X where
  own : PassesOwn (model X.prog X.w) X.A X.env X.xe
  stack : X.stack = X.env :: X.outer
  frame : X.env.frame = some X.env.locals
def SS (U : Wd) (k : Nat) (c : Cc) (st : Stmt) (s : S) : Prop := ∀ (X : Cx) (W : WX), SXOk U k c X → Takes X W → ∃ t, PS X st t ∧ TSok U X.K k W s t
def SSs (U : Wd) (k : Nat) (c : Cc) (st : List Stmt) (s : List S) : Prop := ∀ (X : Cx) (W : WX), SXOk U k c X → Takes X W → ∃ t, PSs X st t ∧ TSSok U X.K k W s t
section
variable {U : Wd} {K : PySem.W.Frag} {k : Nat} {c : Cc} {X : Cx} {W : WX} {B B' : Fx} {ρ : Rho} {σ : St} {F F1 H : Hp} {D : Ends}

theorem toE {α : Type} {x : Out α} {ok : α → Prop} (h : Po x ok (erS U K B W)) : Po x ok (erE U K B σ W) := Po.mono h (fun _ e => e) fun _ _ _ e F H r => e σ F H r
/-- an expression, then more -/
theorem oneS {β : Type} {i : E} {ta : TE} (ha : TEok U K k W i ta) (rel : Rel K B ρ σ F H) {f : R × Rho → Out β} {okb : β → Prop} {Q : VK} (h : Po (ev (U.gm k) i ρ >>= f) okb (erS U K B W))
    (hk : ∀ r ρ' v F' H', Rel K B ρ' σ F' H' → Same F F' → Rs K B ρ' σ F' H' r v → Po (f (r, ρ')) okb (erS U K B W) → Q v H') : ta σ H Q :=
  ha B ρ σ F H Q rel (toE (Po.mono (Po.bind h) (fun p hp v F' H' rel' sm rs => hk p.1 p.2 v F' H' rel' sm rs hp) fun _ _ _ e => e))

/-! ### blocks -/
theorem sss_nil : SSs U k c [] [] := fun X W ok tk => ⟨_, pss_nil, fun B ρ σ F H D rel h => by
  rw [exSs] at h
  exact h σ F H rel⟩
theorem sss_cons {st : Stmt} {sts : List Stmt} {s : S} {ss : List S} (h1 : SS U k c st s) (h2 : SSs U k c sts ss) : SSs U k c (st :: sts) (s :: ss) := by
  intro X W ok tk
  obtain ⟨t, p, h⟩ := h1 X W ok tk
  obtain ⟨u, q, g⟩ := h2 X W ok tk
  refine ⟨_, pss_cons p q, fun B ρ σ F H D rel hp => ?_⟩
  rw [exSs] at hp
  refine h B ρ σ F H _ rel (Po.mono (Po.bind hp) (fun fl hf => ?_) fun _ _ _ e => e)
  cases fl with
  | nx ρ' => exact fun σ' F' H' r => g B ρ' σ' F' H' D r hf
  | rt r ρ' => exact hf
  | bk ρ' => exact hf
  | ct ρ' => exact hf

/-! ### small ones -/
theorem ss_pass {p : Pos} : SS U k c (.Pass p) .pass := fun X W ok tk => ⟨_, ps_pass, fun B ρ σ F H D rel h => by
  rw [exS] at h
  exact h σ F H rel⟩
theorem ss_brk {p : Pos} : SS U k c (.Break p) .brk := fun X W ok tk => ⟨_, ps_break, fun B ρ σ F H D rel h => by
  rw [exS] at h
  exact h σ F H rel⟩
theorem ss_cnt {p : Pos} : SS U k c (.Continue p) .cnt := fun X W ok tk => ⟨_, ps_continue, fun B ρ σ F H D rel h => by
  rw [exS] at h
  exact h σ F H rel⟩
theorem ss_retN {p : Pos} : SS U k c (.Return none p) .retN := fun X W ok tk => ⟨_, ps_retN, fun B ρ σ F H D rel h => by
  rw [exS] at h
  exact h .non σ F H rel rfl⟩
theorem ss_ret {e : Expr} {i : E} {p : Pos} (se : SE U k c e i) : SS U k c (.Return (some e) p) (.ret i) := by
  intro X W ok tk
  obtain ⟨t, pe, he⟩ := se X W ok.toXOk tk
  refine ⟨_, ps_ret pe, fun B ρ σ F H D rel h => ?_⟩
  rw [exS] at h
  exact oneS he rel h fun r ρ' v F' H' rel' sm rs hp => hp v σ F' H' rel' rs
theorem sw_no {e : Expr} (h : isComp e = false) (t : Option Expr) (l : Nat) (env : Env) : swapsWith e t l env = pure false := by
  cases e <;> first | rfl | cases h
theorem ss_ex {e : Expr} {i : E} {p : Pos} (hc : isComp e = false) (se : SE U k c e i) : SS U k c (.Expr e p) (.ex i) := by
  intro X W ok tk
  obtain ⟨t, pe, he⟩ := se X W ok.toXOk tk
  refine ⟨_, ps_expr pe (sw_no hc _ _ _), fun B ρ σ F H D rel h => ?_⟩
  rw [exS] at h
  exact oneS he rel h fun r ρ' v F' H' rel' sm rs hp => hp σ F' H' rel'
theorem ss_if {e : Expr} {i : E} {a b : List Stmt} {a' b' : List S} {p : Pos} (st : ST U k c e i) (sa : SSs U k c a a') (sb : SSs U k c b b') : SS U k c (.If e a b p) (.ite i a' b') := by
  intro X W ok tk
  obtain ⟨t, pt, ht⟩ := st X W ok.toXOk tk
  obtain ⟨ta, pa, ha⟩ := sa X W ok tk
  obtain ⟨tb, pb, hb⟩ := sb X W ok tk
  refine ⟨_, ps_if pt pa pb, fun B ρ σ F H D rel h => ?_⟩
  rw [exS] at h
  refine ht B ρ σ F H _ rel (toE (Po.mono (Po.bind h) (fun q hq F' H' rel' sm => ?_) fun _ _ _ e => e))
  obtain ⟨z, ρ1⟩ := q
  cases z with
  | true => exact ha B ρ1 σ F' H' D rel' hq
  | false => exact hb B ρ1 σ F' H' D rel' hq

/-! ### assignment -/
theorem Rel.setOwn (r : Rel K B ρ σ F H) {i : Nat} {p : Addr} {d : PI.D} {o : HO} (hp : H p = some o) (hf : F p = none) (h0 : B.H0 p = none) (hl : Ob K F d o) (hn : Off ρ σ p) : Rel K B (ρ.set i (.own 0 d)) (σ.set i (some (.ref p))) F H := by
  have len := r.len
  have σo : ∀ {j : Nat}, j ≠ i → (σ.set i (some (V.ref p)))[j]? = σ[j]? := fun {j} e => List.getElem?_set_ne (fun z => e z.symm)
  refine ⟨r.sub, by rw [List.length_set, List.length_set]; exact r.len, fun j x e => ?_, fun j m x e => ?_, fun j x e => ?_, r.lnk, fun a b m x m' y q e1 e2 e3 e4 => ?_, r.keepH, r.keepF, r.grow, r.pin, r.tup⟩
  · rcases set_back e with ⟨_, e2, _⟩ | ⟨n, e2⟩
    · cases e2
    · rw [σo n]
      exact r.val j x e2
  · rcases set_back e with ⟨rfl, e2, hl'⟩ | ⟨n, e2⟩
    · cases e2
      exact ⟨p, o, hl, List.getElem?_set_self (by omega), hf, hp, (fun z => by cases z), fun _ => h0⟩
    · rw [σo n]
      exact r.own j m x e2
  · rcases set_back e with ⟨_, e2, _⟩ | ⟨n, e2⟩
    · cases e2
    · rw [σo n]
      exact r.lent j x e2
  · rcases set_back e1 with ⟨rfl, f1, l1⟩ | ⟨n1, f1⟩
    · rcases set_back e2 with ⟨rfl, f2, _⟩ | ⟨n2, f2⟩
      · rfl
      · rw [List.getElem?_set_self (by omega)] at e3
        cases e3
        rw [σo n2] at e4
        exact absurd e4 (hn b m' y f2)
    · rcases set_back e2 with ⟨rfl, f2, l2⟩ | ⟨n2, f2⟩
      · rw [List.getElem?_set_self (by omega)] at e4
        cases e4
        rw [σo n1] at e3
        exact absurd e3 (hn a m x f1)
      · rw [σo n1] at e3
        rw [σo n2] at e4
        exact r.sep a b m x m' y q f1 f2 e3 e4
theorem ts_asg {i : E} {g : G} {te : TE} (he : TEok U K k W i te) : TSok U K k W (.asg g i) (tAsg te (tG K g)) := by
  intro B ρ σ F H D rel h
  rw [exS] at h
  refine oneS he rel h fun r ρ1 v F1 H1 rel1 s1 rs1 h1 => ?_
  have gen : ∀ {d : PI.D} {ρ2 ρ3 : Rho}, give ρ1 r = some (d, ρ2) → bindG g d ρ2 = some ρ3 → okS K B D (.nx ρ3) → tG K g v σ H1 D.nx := fun {d ρ2 ρ3} e1 e2 hk => by
    obtain ⟨F2, s2, rel2, rs2⟩ := rs1.settle rel1
    obtain ⟨F3, s3, rel3, rp3⟩ := rs2.give rel2 e1
    exact tG_ok rel3 rp3 e2 fun σ' r' _ => hk σ' F3 H1 r'
  have gen2 : Po (do
      let (d, ρ) ← ofO (give ρ1 r)
      let ρ ← ofO (bindG g d ρ)
      pure (Fl.nx ρ)) (okS K B D) (erS U K B W) → tG K g v σ H1 D.nx := fun h => by
    obtain ⟨⟨d, ρ2⟩, e1, h2⟩ := Po.ofO' h
    obtain ⟨ρ3, e2, h3⟩ := Po.ofO' h2
    exact gen e1 e2 h3
  cases g with
  | tup gs => exact gen2 (by cases r <;> exact h1)
  | name j =>
    cases r with
    | dat d => exact gen2 h1
    | pl i => exact gen2 h1
    | fre d =>
      obtain ⟨ρ2, e1, h2⟩ := Po.ofO' (show Po (ofO (stVar j (.own 0 d) ρ1) >>= fun ρ => pure (Fl.nx ρ)) (okS K B D) (erS U K B W) from h1)
      obtain ⟨rfl, hl⟩ := stVar_eq e1
      obtain ⟨p, o, g4, rfl, g1, g2, g3, g5⟩ := rs1
      exact h2 _ F1 H1 (rel1.setOwn g1 g2 g3 g4 g5)
theorem tup_sw {e : Expr} {es : List Expr} {n : Nat} {p : Pos} (h : ∀ l m q, e ≠ .Tuple l m q) (env : Env) : swappedStores [.Tuple es n p] e env = pure none := by
  cases e <;> first | rfl | exact absurd rfl (h _ _ _)
/-- the text of target = value -/
def asgOk : Expr → Expr → Bool
  | .Tuple _ _ _, .Tuple _ _ _ => false
  | .Tuple _ _ _, _ => true
  | .Name _ _, _ => true
  | _, _ => false
theorem asg_ps {tg e : Expr} {g : G} {te : TE} {n : Nat} {pos : Pos} (ok : XOk U k c X) (hg : trG c n tg = some g) (ho : asgOk tg e = true) (hs : swapsWith e (some tg) pos.line X.env = pure false) (pe : PE X e te) : PS X (.Assign [tg] e pos) (tAsg te (tG X.K g)) := by
  cases n with
  | zero => simp [trG] at hg
  | succ n =>
    cases tg with
    | Name x p =>
      simp only [trG] at hg
      obtain ⟨i, e1, rfl⟩ := map_some hg
      unfold Cc.lslot at e1
      split at e1
      · rename_i z
        rw [Bool.and_eq_true] at z
        obtain ⟨t1, t2⟩ := ok.tgt x z.1
        exact ps_set ok.nd (by rw [ok.N]; exact ixIn_get e1) t1 pe hs t2
      · cases e1
    | Tuple es m p => exact ps_asg pe (trG_pg ok hg) hs (tup_sw (fun l m q z => by rw [z] at ho; cases ho) X.env) rfl
    | _ => cases ho
theorem ss_asg {tg e : Expr} {g : G} {i : E} {n : Nat} {pos : Pos} (hg : trG c n tg = some g) (ho : asgOk tg e = true) (hc : isComp e = false) (se : SE U k c e i) : SS U k c (.Assign [tg] e pos) (.asg g i) := by
  intro X W ok tk
  obtain ⟨t, pe, he⟩ := se X W ok.toXOk tk
  exact ⟨_, asg_ps ok.toXOk hg ho (sw_no hc _ _ _) pe, ts_asg he⟩
theorem sw_comp {elt : Expr} {gs : List Comprehension} {scope : Scope} {p : Pos} {tg : Expr} {l : Nat} {env : Env} : swapsWith (.ListComp elt gs scope p) (some tg) l env = pure false ∨ (∃ y py, tg = .Name y py ∧ env.scope.names.lookup y = some .local ∧ swapsWith (.ListComp elt gs scope p) (some tg) l env = pure true) := by
  cases tg with
  | Name y py =>
    cases hb : (env.blockKind == .function && env.kindOf y == some .local && py.line == (Expr.ListComp elt gs scope p).pos.line && !(scope.names.any fun (n, k) => n == y && (k == .local || k == .cell))) with
    | false =>
      refine .inl ?_
      show (pure (env.blockKind == .function && env.kindOf y == some .local && py.line == (Expr.ListComp elt gs scope p).pos.line && !(scope.names.any fun (n, k) => n == y && (k == .local || k == .cell))) : Sem Bool) = _
      rw [hb]
    | true =>
      refine .inr ⟨y, py, rfl, ?_, ?_⟩
      · simp only [Bool.and_eq_true] at hb
        have := hb.1.1.2
        exact (by simpa using this : env.kindOf y = some .local)
      · show (pure (env.blockKind == .function && env.kindOf y == some .local && py.line == (Expr.ListComp elt gs scope p).pos.line && !(scope.names.any fun (n, k) => n == y && (k == .local || k == .cell))) : Sem Bool) = _
        rw [hb]
  | _ => exact .inl rfl
theorem ss_asgLc {tg : Expr} {g : G} {n : Nat} {pos : Pos} {elt tg1 iter : Expr} {ifs : List Expr} {scope : Scope} {e : E} {g1 : G} {it : I} {co : Option E} {own : List (Str × Nat)} {p : Pos} (hg : trG c n tg = some g) (ho : asgOk tg (.ListComp elt [⟨tg1, iter, ifs, 0⟩] scope p) = true)
    (S : SLc U k c elt tg1 iter ifs scope e g1 it co own) : SS U k c (.Assign [tg] (.ListComp elt [⟨tg1, iter, ifs, 0⟩] scope p) pos) (.asg g (.comp e g1 it co (own.map (·.2)))) := by
  intro X W ok tk
  obtain ⟨hb, wi, tt, te, p1, p2, p3, p4, h⟩ := S.parts ok.toXOk tk
  refine ⟨_, ?_, ts_asg h⟩
  rcases sw_comp (elt := elt) (gs := [⟨tg1, iter, ifs, 0⟩]) (scope := scope) (p := p) (tg := tg) (l := pos.line) (env := X.env) with hs | ⟨y, py, rfl, hy, hs⟩
  · exact asg_ps ok.toXOk hg ho hs (pe_lc ok.calm ok.nd p1 hb (fun s H C cl fp => p2 ⟨s, H, C, cl, fp⟩) (fun s H C cl fp => p3 ⟨s, H, C, cl, fp⟩) (fun s H C cl fp => p4 ⟨s, H, C, cl, fp⟩) (noSet_ok S.set X.env))
  · cases n with
    | zero => simp [trG] at hg
    | succ n =>
      simp only [trG] at hg
      obtain ⟨i, e1, rfl⟩ := map_some hg
      unfold Cc.lslot at e1
      split at e1
      · exact ps_setLc ok.calm ok.nd (by rw [ok.N]; exact ixIn_get e1) hy hs p1 hb (fun s H C cl fp => p2 ⟨s, H, C, cl, fp⟩) (fun s H C cl fp => p3 ⟨s, H, C, cl, fp⟩) (fun s H C cl fp => p4 ⟨s, H, C, cl, fp⟩) (noSet_ok S.set X.env)
      · cases e1
end
end PI
/-! Changes of names and items, loops. -/
namespace PI
open PySem L2
/-- another frame at the same time -/
def Fx.base (B : Fx) (F : Hp) : Fx := { B with F0 := F }
section
variable {U : Wd} {K : PySem.W.Frag} {k : Nat} {c : Cc} {X : Cx} {W : WX} {B B' : Fx} {ρ : Rho} {σ : St} {F F1 H : Hp} {D : Ends}

theorem ipA (o : Operator) : PIp X o (fun x y H Q => ∃ i j m, x = .int i ∧ y = .int j ∧ iopA o i j = some m ∧ Q (.int m) H) := by
  intro pins s σ H x y v u Q I r1 r2 h
  obtain ⟨i, j, m, rfl, rfl, g, q⟩ := h
  obtain ⟨t, rfl⟩ := r1
  obtain ⟨t', rfl⟩ := r2
  cases o with
  | Add =>
    cases g
    exact PyProof.Rows.iadd_int ⟨.int _, H, I.tok _, ⟨_, rfl⟩, q⟩
  | Sub =>
    cases g
    exact PyProof.Rows.isub_int ⟨.int _, H, I.tok _, ⟨_, rfl⟩, q⟩
  | Mult =>
    simp only [iopA] at g
    split at g
    · rename_i c
      cases g
      have hm : CMul i j ∨ CMulW i j := by
        rcases of_decide_eq_true c with c | c | c
        · exact .inl (.inl c)
        · exact .inl (.inr c)
        · exact .inr c
      rcases hm with hm | hm
      · exact PyProof.Rows.imul_int ⟨.int _, H, I.tok _, ⟨_, rfl⟩, q⟩ hm.ok
      · exact PyProof.Rows.imul_int ⟨.int _, H, I.tok _, ⟨_, rfl⟩, q⟩ hm.ok
    · cases g
  | FloorDiv =>
    simp only [iopA] at g
    split at g
    · rename_i c
      cases g
      have c' := of_decide_eq_true c
      exact PyProof.Rows.ifloordiv_int (by omega) (by rw [Int.fdiv_eq_ediv_of_nonneg i (by omega)]; exact ⟨.int _, H, I.tok _, ⟨_, rfl⟩, q⟩) (.inl (PyProof.noPylong_of_log2 c'.2))
    · cases g
  | BitAnd =>
    cases g
    exact PyProof.Rows.iand_int ⟨.int _, H, I.tok _, ⟨_, rfl⟩, q⟩
  | BitOr =>
    cases g
    exact PyProof.Rows.ior_int ⟨.int _, H, I.tok _, ⟨_, rfl⟩, q⟩
  | BitXor =>
    cases g
    exact PyProof.Rows.ixor_int ⟨.int _, H, I.tok _, ⟨_, rfl⟩, q⟩
  | _ => cases g
theorem lslot_get {x : Str} {i : Nat} (h : c.lslot x = some i) (ok : XOk U k c X) : X.N[i]? = some x ∧ Loc X.env.scope x ∧ (X.fn x = true ∨ X.env.scope.names.lookup x = some .local) := by
  unfold Cc.lslot at h
  split at h
  · rename_i z
    rw [Bool.and_eq_true] at z
    obtain ⟨t1, t2⟩ := ok.tgt x z.1
    exact ⟨by rw [ok.N]; exact ixIn_get h, t1, t2⟩
  · cases h
theorem rdVar_at (rel : Rel K B ρ σ F H) {i : Nat} {r : R} (h : rdVar i ρ = some r) : ∃ v, σ[i]? = some (some v) ∧ Rs K B ρ σ F H r.set v := by
  unfold rdVar at h
  cases q : ρ[i]? with
  | none => simp [q] at h
  | some s =>
    cases s with
    | no => simp [q] at h
    | val d =>
      simp [q] at h
      subst h
      obtain ⟨v, h1, h2⟩ := rel.val i d q
      exact ⟨v, h1, h2⟩
    | own m d =>
      simp [q] at h
      subst h
      obtain ⟨p, o', h1, h2, h3⟩ := rel.own i m d q
      exact ⟨_, h2, ⟨_, q, by simp⟩, h2⟩
    | lent d =>
      simp [q] at h
      subst h
      obtain ⟨p, ds, vs, h1, h2, h3⟩ := rel.lent i d q
      exact ⟨_, h2, ⟨_, q, by simp⟩, h2⟩
theorem ss_aug {x : Str} {i : Nat} {o : Operator} {e : Expr} {j : E} {p pos : Pos} (hi : c.lslot x = some i) (se : SE U k c e j) : SS U k c (.AugAssign (.Name x p) o e pos) (.aug i o j) := by
  intro X W ok tk
  obtain ⟨n1, n2, n3⟩ := lslot_get hi ok.toXOk
  obtain ⟨t, pe, he⟩ := se X W ok.toXOk tk
  refine ⟨_, ps_aug ok.nd n1 n2 pe (ipA o) n3, fun B ρ σ F H D rel h => ?_⟩
  rw [exS] at h
  obtain ⟨r, e1, g1⟩ := Po.ofO' h
  obtain ⟨xd, e2, g2⟩ := Po.ofO' g1
  obtain ⟨a, e3, g3⟩ := Po.ofO' g2
  have ea := int_get e3
  subst ea
  obtain ⟨v, hv, rv⟩ := rdVar_at rel e1
  have hv2 : v = .int a := rv.read (Same.refl F) rel e2
  subst hv2
  refine ⟨_, hv, oneS he rel g3 fun q ρ1 w F1 H1 rel1 s1 rs1 h1 => ?_⟩
  obtain ⟨F2, s2, rel2, rs2⟩ := rs1.settle rel1
  obtain ⟨y, e4, h2⟩ := Po.ofO' h1
  obtain ⟨b, e5, h3⟩ := Po.ofO' h2
  have eb := int_get e5
  subst eb
  have hw : w = .int b := rs2.read (Same.refl F2) rel2 e4
  subst hw
  obtain ⟨m, e6, h4⟩ := Po.ofO' h3
  obtain ⟨ρ2, e7, h5⟩ := Po.ofO' h4
  obtain ⟨er, hl⟩ := stVar_eq e7
  subst er
  exact ⟨a, b, m, rfl, rfl, e6, h5 _ F2 H1 (rel2.setVal i rfl)⟩
/-- name[j] = e -/
theorem ss_setix {x : Str} {i : Nat} {j e : Expr} {j' e' : E} {p sp pos : Pos} (hi : c.slot x = some i) (hj : noSlice j = true) (hc : isComp e = false) (sj : SE U k c j j') (se : SE U k c e e') : SS U k c (.Assign [.Subscript (.Name x p) j sp] e pos) (.setix i j' e') := by
  intro X W ok tk
  obtain ⟨y1, y2, y3⟩ := slot_get hi ok.toXOk
  obtain ⟨d1, d2, _⟩ := okName_dbg y3
  obtain ⟨te, pe, he⟩ := se X W ok.toXOk tk
  obtain ⟨tj, pj, hj'⟩ := sj X W ok.toXOk tk
  have pn : PE X (.Name x p) (tVar i) := pe_var y1 y2 d1 d2
  refine ⟨_, ps_asg pe (pg_sub pn pj (PSet.or set_list (set_dict (by have := unitsOk ok.toXOk; omega))) (by intro v; cases j <;> first | rfl | cases hj)) (show swapsWithSole [.Subscript (.Name x p) j sp] e pos.line X.env = _ from sw_no hc (some (.Subscript (.Name x p) j sp)) pos.line X.env) rfl rfl, fun B ρ σ F H D rel h => ?_⟩
  rw [exS] at h
  refine oneS he rel h fun r ρ1 v F1 H1 rel1 s1 rs1 h1 => ?_
  obtain ⟨F2, s2, rel2, rs2⟩ := rs1.settle rel1
  obtain ⟨⟨d, ρ2⟩, e1, h2⟩ := Po.ofO' h1
  obtain ⟨F3, s3, rel3, rp3⟩ := rs2.give rel2 e1
  obtain ⟨u, e2, h3⟩ := Po.ofO' h2
  obtain ⟨m0, d0, e3⟩ := own_any e2
  obtain ⟨a, o0, _, g2, _⟩ := rel3.own _ _ _ e3
  refine ⟨_, g2, oneS hj' rel3 h3 fun q ρ4 w F4 H4 rel4 s4 rs4 h4 => ?_⟩
  obtain ⟨F5, s5, rel5, rs5⟩ := rs4.settle rel4
  obtain ⟨xd, e4, h5⟩ := Po.ofO' h4
  have hw0 := rs5.read (Same.refl F5) rel5 e4
  have h6 := h5
  cases q5 : ρ4[i]? with
  | none =>
    simp only [q5] at h6
    exact h6.elim
  | some s =>
    cases s with
    | no =>
      simp only [q5] at h6
      exact h6.elim
    | val d' =>
      simp only [q5] at h6
      exact h6.elim
    | lent d' =>
      simp only [q5] at h6
      exact h6.elim
    | own m d' =>
      match d' with
      | .non | .bl _ | .int _ | .str _ | .tup _ | .gl _ | .scr _ =>
        simp only [q5] at h6
        exact h6.elim
      | .dic t ks vs =>
        simp only [q5] at h6
        by_cases hm : m = 0 ∧ keyOk (kindK t ks xd) xd = true ∧ ks.length < sizeLine
        · simp only [hm, and_self, if_true] at h6
          obtain ⟨rfl, hk, hn⟩ := hm
          obtain ⟨p2, o2, ⟨us, f1, f2⟩, f3, f4, f5, f6⟩ := rel5.own _ _ _ q5
          rw [g2] at f3
          cases f3
          obtain ⟨o', us', s1', s2', s3'⟩ := st_of rel5.sub f5 f1 f2 hk hn hw0 (Rp.mono (s4.trans s5) rp3)
          exact .inr ⟨a, _, rfl, s1', h6 _ F5 _ (rel5.storeO q5 g2 ⟨us', s2', s3'⟩ fun e => by cases e)⟩
        · simp only [hm, if_false] at h6
          exact h6.elim
      | .lst l =>
      obtain ⟨p2, ws, f2, f3, f4, f5, f6⟩ := rel5.ownL q5
      simp only [q5] at h6
      obtain ⟨b, e5, h8⟩ := Po.ofO' h6
      have eb := int_get e5
      subst eb
      have hw : w = .int b := hw0
      subst hw
      by_cases hm : m ≤ 1
      · simp only [hm, if_true] at h8
        obtain ⟨n, e6, h7⟩ := Po.ofO' h8
        rw [g2] at f2
        cases f2
        have hn : ixN ws.length b = some n := by
          rw [← f5.length]
          exact e6
        have hlt : n < l.length := by
          rw [f5.length]
          exact (ixN_seq hn).2.1
        exact .inl ⟨a, ws, b, n, rfl, rfl, f4, hn, h7 _ F5 _ (rel5.store q5 g2 (RpL.set (Rp.mono (s4.trans s5) rp3) n f5))⟩
      · simp only [hm, if_false] at h8
        exact h8.elim

/-! ### loops -/
theorem Rel.rebase (r : Rel K B ρ σ F H) : Rel K (B.base F) ρ σ F H where
  sub := r.sub
  len := r.len
  val := r.val
  own := r.own
  lent := r.lent
  lnk := r.lnk
  sep := r.sep
  keepH := r.keepH
  keepF := fun a o _ e => e
  grow := Same.refl F
  pin := r.pin
  tup := r.tup
theorem Rel.unbase {ρ0 : Rho} {σ0 : St} {F0 H0 : Hp} (r0 : Rel K B ρ0 σ0 F0 H0) (r : Rel K (B.base F0) ρ σ F H) : Rel K B ρ σ F H where
  sub := r.sub
  len := r.len
  val := r.val
  own := r.own
  lent := r.lent
  lnk := r.lnk
  sep := r.sep
  keepH := r.keepH
  keepF := fun a o h e => r.keepF a o h (r0.keepF a o h e)
  grow := r0.grow.trans r.grow
  pin := r.pin
  tup := r.tup
theorem whl_ok {e : E} {b : List S} {tc : TT} {tb : TS} (hc : TTok U K k W e tc) (hb : TSSok U K k W b tb) : TSok U K k W (.whl e b) (tWhile tc tb) := by
  intro B ρ σ F H D rel h
  rw [exS] at h
  refine ⟨fun m σ H => ∃ ρ F, Rel K B ρ σ F H ∧ Po (whlF (fun ρ => trO (ev (U.gm k) e ρ)) (exSs (U.gm k) b) m ρ) (okS K B D) (erS U K B W), ⟨_, ρ, F, rel, h⟩, ?_⟩
  rintro m σ H ⟨ρ, F, rel, h⟩
  cases m with
  | zero =>
    rw [whlF] at h
    exact h.elim
  | succ n =>
    rw [whlF] at h
    refine hc B ρ σ F H _ rel (toE (Po.mono (Po.bind h) (fun q hq F' H' rel' sm => ?_) fun _ _ _ e => e))
    obtain ⟨z, ρ1⟩ := q
    cases z with
    | false => exact hq σ F' H' rel'
    | true =>
      rw [if_pos rfl]
      refine ⟨fun σ H => ∃ ρ F, Rel K B ρ σ F H ∧ Po (whlF (fun ρ => trO (ev (U.gm k) e ρ)) (exSs (U.gm k) b) n ρ) (okS K B D) (erS U K B W), fun σ' H' w => ⟨n, by omega, w⟩, ?_⟩
      refine hb B ρ1 σ F' H' _ rel' (Po.mono (Po.bind (show Po (exSs (U.gm k) b ρ1 >>= fun fl => _) _ _ from hq)) (fun fl hf => ?_) fun _ _ _ e => e)
      cases fl with
      | nx ρ2 => exact fun σ2 F2 H2 r2 => ⟨ρ2, F2, r2, hf⟩
      | ct ρ2 => exact fun σ2 F2 H2 r2 => ⟨ρ2, F2, r2, hf⟩
      | bk ρ2 => exact hf
      | rt r ρ2 => exact hf
theorem ss_whl {e : Expr} {i : E} {b : List Stmt} {b' : List S} {p : Pos} (st : ST U k c e i) (sb : SSs U k c b b') : SS U k c (.While e b [] p) (.whl i b') := by
  intro X W ok tk
  obtain ⟨tc, pc, hc⟩ := st X W ok.toXOk tk
  obtain ⟨tb, pb, hb⟩ := sb X W ok tk
  exact ⟨_, ps_while ok.own pc pb, whl_ok hc hb⟩
theorem unlend_get {i j : Nat} {ρ ρ' : Rho} {s : Sl} (h : unlend ρ i = some ρ') (e : ρ[j]? = some s) (hs : s ≠ .no) : ∃ s', ρ'[j]? = some s' ∧ s' ≠ .no := by
  unfold unlend at h
  cases q : ρ[i]? with
  | none => simp [q] at h
  | some t =>
    cases t with
    | lent d =>
      simp [q] at h
      subst h
      by_cases z : i = j
      · subst z
        have hlt : i < ρ.length := (List.getElem?_eq_some_iff.mp q).1
        exact ⟨_, List.getElem?_set_self hlt, by simp⟩
      · exact ⟨s, by rw [List.getElem?_set_ne z]; exact e, hs⟩
    | _ => simp [q] at h
theorem unlends_get {j : Nat} : ∀ {rs : List Nat} {ρ ρ' : Rho} {s : Sl}, unlends rs ρ = some ρ' → ρ[j]? = some s → s ≠ .no → ∃ s', ρ'[j]? = some s' ∧ s' ≠ .no
  | [], ρ, ρ', s, h, e, hs => by
    have h' : some ρ = some ρ' := h
    cases h'
    exact ⟨s, e, hs⟩
  | i :: rs, ρ, ρ', s, h, e, hs => by
    unfold unlends at h
    rw [List.foldlM_cons] at h
    obtain ⟨ρ1, e1, e2⟩ := Option.bind_eq_some_iff.mp h
    obtain ⟨s1, g1, g2⟩ := unlend_get e1 e hs
    exact unlends_get e2 g1 g2
theorem Back.rs {js : List Nat} {ρ ρ' : Rho} {r : R} {v : V} (bk : Back K B B' js) (rel : Rel K B' ρ σ F H) (h : unlends js ρ = some ρ') (rs : Rs K B' ρ σ F H r v) : Rs K B ρ' σ F H r v := by
  cases r with
  | dat d => exact rs
  | fre d =>
    obtain ⟨p, o, e1, e2, h1, h2, h3, h5⟩ := rs
    exact ⟨p, o, e1, e2, h1, h2, bk.wid.free h3, bk.off p h3 ρ ρ' σ F H rel h h5⟩
  | pl i =>
    obtain ⟨⟨s, e, hs⟩, h2⟩ := rs
    exact ⟨unlends_get h e hs, h2⟩
theorem Rs.unbase {r : R} {v : V} (rs : Rs K (B.base F1) ρ σ F H r v) : Rs K B ρ σ F H r v := by
  cases r <;> exact rs
def bodyF (Γ : Gm) (g : G) (b : List S) (x : PI.D) (ρ : Rho) : Out Fl := do
  let ρ ← ofO (bindG g x ρ)
  exSs Γ b ρ
theorem endF_bind {rs : List Nat} {fl : Fl} {ok : Fl → Prop} {er : Nat → List PI.D → Rho → Prop} (h : Po (endF rs (.ok fl)) ok er) : (∃ ρ ρ', fl = .nx ρ ∧ unlends rs ρ = some ρ' ∧ ok (.nx ρ')) ∨ (∃ r ρ ρ', fl = .rt r ρ ∧ unlends rs ρ = some ρ' ∧ ok (.rt r ρ')) := by
  cases fl with
  | nx ρ =>
    obtain ⟨ρ', e, h2⟩ := Po.ofO' (show Po (ofO (unlends rs ρ) >>= fun ρ => .ok (.nx ρ)) ok er from h)
    exact .inl ⟨ρ, ρ', rfl, e, h2⟩
  | rt r ρ =>
    obtain ⟨ρ', e, h2⟩ := Po.ofO' (show Po (ofO (unlends rs ρ) >>= fun ρ => .ok (.rt r ρ)) ok er from h)
    exact .inr ⟨r, ρ, ρ', rfl, e, h2⟩
  | bk ρ => exact h.elim
  | ct ρ => exact h.elim
theorem for_ok {it : I} {g : G} {b : List S} {wi : TI} {tb : TS} (hi : TIok U K k W it wi) (hb : TSSok U K k W b tb) : TSok U K k W (.for_ g it b) (tFor wi (tG K g) tb) := by
  intro B ρ σ F H D rel h
  rw [exS] at h
  refine hi B ρ σ F H _ rel (toE (Po.mono (Po.bind h) (fun q hq => ?_) fun _ _ _ e => e))
  obtain ⟨l, rs, ρ1⟩ := q
  intro B' J F1 H1 rel1 s1 wk bk
  have hq' : Po (endF rs (forF (bodyF (U.gm k) g b) l ρ1)) (okS K B D) (erS U K B W) := hq
  have wd : Wid B' (B'.base F1) := ⟨fun _ _ e => e, rfl⟩
  refine ⟨fun i m σ H => m = l.length - i ∧ i ≤ l.length ∧ ∃ ρ F, Rel K (B'.base F1) ρ σ F H ∧ Po (endF rs (forF (bodyF (U.gm k) g b) (l.drop i) ρ)) (okS K B D) (erS U K B W), ⟨l.length, by simp, Nat.zero_le _, ρ1, F1, rel1.rebase, hq'⟩, ?_⟩
  rintro i m σ2 H2 ⟨rfl, hi', ρ2, F2, r2, hp⟩
  obtain ⟨stop, walk⟩ := wk _ wd ρ2 σ2 F2 H2 r2 r2.grow
  by_cases hlt : i < l.length
  · obtain ⟨go, yl⟩ := walk i l[i] (List.getElem?_eq_getElem hlt)
    rw [List.drop_eq_getElem_cons hlt, forF] at hp
    refine .inr ⟨go, fun σ H => ∃ ρ F, Rel K (B'.base F1) ρ σ F H ∧ Po (endF rs (forF (bodyF (U.gm k) g b) (l.drop (i + 1)) ρ)) (okS K B D) (erS U K B W), fun σ' H' w => ⟨l.length - (i + 1), by omega, rfl, hlt, w⟩, fun x H3 y => ?_⟩
    obtain ⟨F3, s3, r3, rx⟩ := yl x H3 y
    cases eb : bindG g l[i] ρ2 with
    | none =>
      have z : bodyF (U.gm k) g b l[i] ρ2 = .bad := by simp [bodyF, eb]
      rw [z] at hp
      exact hp.elim
    | some ρa =>
      have z : bodyF (U.gm k) g b l[i] ρ2 = exSs (U.gm k) b ρa := by simp [bodyF, eb]
      rw [z] at hp
      refine tG_ok r3 rx eb fun σ3 r4 _ => hb _ ρa σ3 F3 H3 _ r4 ?_
      cases ex : exSs (U.gm k) b ρa with
      | bad =>
        rw [ex] at hp
        exact hp.elim
      | err cc pl ρ4 =>
        rw [ex] at hp
        obtain ⟨ρ5, e5, h5⟩ := Po.ofO' (show Po (ofO (unlends rs ρ4) >>= fun ρ => (.err cc pl ρ : Out Fl)) (okS K B D) (erS U K B W) from hp)
        exact fun σ5 F5 H5 r5 => h5 σ5 F5 H5 (bk.rel _ _ _ _ _ (rel1.unbase r5) e5)
      | ok fl =>
        rw [ex] at hp
        cases fl with
        | nx ρ4 => exact fun σ5 F5 H5 r5 => ⟨ρ4, F5, r5, hp⟩
        | ct ρ4 => exact fun σ5 F5 H5 r5 => ⟨ρ4, F5, r5, hp⟩
        | bk ρ4 =>
          rcases endF_bind hp with ⟨ρx, ρ5, e4, e5, h5⟩ | ⟨r, ρx, ρ5, e4, e5, h5⟩
          · cases e4
            exact fun σ5 F5 H5 r5 => h5 σ5 F5 H5 (bk.rel _ _ _ _ _ (rel1.unbase r5) e5)
          · cases e4
        | rt r ρ4 =>
          rcases endF_bind hp with ⟨ρx, ρ5, e4, e5, h5⟩ | ⟨r, ρx, ρ5, e4, e5, h5⟩
          · cases e4
          · cases e4
            exact fun v σ5 F5 H5 r5 rs5 => h5 v σ5 F5 H5 (bk.rel _ _ _ _ _ (rel1.unbase r5) e5) (bk.rs (rel1.unbase r5) e5 rs5.unbase)
  · have ei : i = l.length := by omega
    subst ei
    rw [List.drop_length, forF] at hp
    refine .inl ⟨stop, ?_⟩
    rcases endF_bind hp with ⟨ρx, ρ5, e4, e5, h5⟩ | ⟨r, ρx, ρ5, e4, e5, h5⟩
    · cases e4
      exact h5 σ2 F2 H2 (bk.rel _ _ _ _ _ (rel1.unbase r2) e5)
    · cases e4
theorem ss_for {tg iter : Expr} {it : I} {g : G} {n : Nat} {b : List Stmt} {b' : List S} {p : Pos} (hg : trG c n tg = some g) (hs : noSet iter = true) (si : SI U k c tg iter it) (sb : SSs U k c b b') : SS U k c (.For tg iter b [] p) (.for_ g it b') := by
  intro X W ok tk
  obtain ⟨wi, pi, hi⟩ := si X W ok.toXOk tk
  obtain ⟨tb, pb, hb⟩ := sb X W ok tk
  exact ⟨_, ps_for ok.own ok.calm pi (trG_pg ok.toXOk hg) pb (noSet_ok hs X.env), for_ok hi hb⟩
end
end PI
/-! Errors. -/
namespace PI
open PySem L2
section
variable {U : Wd} {K : PySem.W.Frag} {k : Nat} {c : Cc} {X : Cx} {W : WX} {B B' : Fx} {ρ : Rho} {σ : St} {F F1 H : Hp} {D : Ends}
theorem cls_get {x : Str} {i : Nat} (hg : gbl c.sc x = true) (ho : okName x = true) (hi : ixIn x c.nm.cls = some i) (ok : XOk U k c X) : Gl X x ∧ (x == ("__debug__" : Str)) = false ∧ X.mg x = some (.ref (U.ca i)) ∧ PySem.W.keepIn X.K (.ref (U.ca i)) = true := by
  rw [ok.nm] at hi
  obtain ⟨h1, h2⟩ := ok.ok.cls x i hi
  exact ⟨gbl_of hg ok, (okName_dbg ho).1, by rw [ok.mg]; exact h1, by rw [ok.K]; exact h2⟩
theorem ss_raise {x m : Str} {i j : Nat} {p p2 p3 pos : Pos} (hg : gbl c.sc x = true) (ho : okName x = true) (hi : ixIn x c.nm.cls = some i) (hr : c.nm.ras.contains i = true) :
    SS U k c (.Raise (some (.Call (.Name x p) [.Constant (.str m) j p2] [] p3)) none pos) (.raise i []) := by
  intro X W ok tk
  obtain ⟨g1, g2, g3, g4⟩ := cls_get hg ho hi ok.toXOk
  rw [ok.nm] at hr
  obtain ⟨r1, r2, r3⟩ := ok.ok.ras i (by simpa using hr)
  rw [← ok.K] at r1 r2 r3
  refine ⟨_, ps_raise ok.calm tk (pmk_own PySem.F.excBase_ValueError r1 g3 g4 (raises_own r2 r3) g1 g2), fun B ρ σ F H D rel h => ?_⟩
  rw [exS, evs] at h
  exact h σ F H rel
/-- as pe_uni, for a body under any wish -/
theorem pss_uni {ι : Type} {P : ι → Prop} {Y : ι → Cx} {b : List Stmt} {i : List S} {V : WX} (h : ∀ j, P j → ∃ t, PSs (Y j) b t ∧ TSSok U K k V i t) : ∃ t, (∀ j, P j → PSs (Y j) b t) ∧ TSSok U K k V i t :=
  ⟨fun D σ H => ∀ j (q : P j), Classical.choose (h j q) D σ H, fun j q => ⟨fun pins s σ H D I hw => (Classical.choose_spec (h j q)).1.run pins s σ H D I (hw j q)⟩, fun B ρ σ F H D rel hp j q => (Classical.choose_spec (h j q)).2 B ρ σ F H D rel hp⟩
theorem tr_ok {pn : List (Addr × Obj)} {xe : Value → Shared → Prop} (ok : SXOk U k c X) (ho : PassesOwn (model X.prog X.w) X.A X.env xe) : SXOk U k c (X.tr pn xe) :=
  ⟨⟨ok.P, ok.w, ok.K, ok.mg, ok.base, ok.nm, ok.N, ok.nd, ok.sc, ok.fnk, ok.calm, ok.room, ok.grd, ok.ok, ok.calls, ok.tgt⟩, ho, ok.stack, ok.frame⟩
theorem con_pe {k : Const} {d : PI.D} {j : Nat} {p : Pos} (h : conD k = some d) : ∃ v, PE X (.Constant k j p) (tC v) ∧ ∀ K F, Rp K F d v := by
  cases k <;> simp [conD] at h <;> subst h
  · exact ⟨_, pe_bl, fun _ _ => rfl⟩
  · exact ⟨_, pe_str, fun _ _ => rfl⟩
theorem ss_try {x : Str} {i j : Nat} {kc : Const} {d : PI.D} {b : List Stmt} {b' : List S} {np cp rp hp pos : Pos} (hg : gbl c.sc x = true) (ho : okName x = true) (hi : ixIn x c.nm.cls = some i) (hd : conD kc = some d) (sb : SSs U k c b b') :
    SS U k c (.Try b [.ExceptHandler (some (.Name x np)) none [.Return (some (.Constant kc j cp)) rp] hp] [] [] pos) (.try_ b' i d) := by
  intro X W ok tk
  obtain ⟨g1, g2, g3, g4⟩ := cls_get hg ho hi ok.toXOk
  have hall : ∀ V : WX, ∃ t, (∀ q : List (Addr × Obj) × (Value → Shared → Prop), (Takes (X.tr q.1 q.2) V ∧ PassesOwn (model X.prog X.w) X.A X.env q.2) → PSs (X.tr q.1 q.2) b t) ∧ TSSok U X.K k V b' t := fun V =>
    pss_uni fun q hq => sb _ V (tr_ok ok hq.2) hq.1
  obtain ⟨v, _, hv⟩ := con_pe (X := X) (j := j) (p := cp) hd
  have hcon : ∀ Y : Cx, PE Y (.Constant kc j cp) (tC v) := fun Y => by
    obtain ⟨v', pv, hv'⟩ := con_pe (X := Y) (j := j) (p := cp) hd
    have e : v' = v := by
      cases kc <;> simp [conD] at hd <;> subst hd
      · exact (show v' = V.bl _ from hv' X.K fun _ => none).trans (show v = V.bl _ from hv X.K fun _ => none).symm
      · exact (show v' = V.str _ from hv' X.K fun _ => none).trans (show v = V.str _ from hv X.K fun _ => none).symm
    rw [← e]
    exact pv
  refine ⟨_, ps_try_only (tb := fun V => Classical.choose (hall V)) (ts := fun _ _ _ => tRet (tC v)) ok.stack ok.frame ⟨g1, g2, .inl g3⟩ tk (fun V pn xe h1 h2 => (Classical.choose_spec (hall V)).1 (pn, xe) ⟨h1, h2⟩) (fun a oe cls d pn _ _ => pss_one (ps_ret (hcon _))), fun B ρ σ F H D rel h => ?_⟩
  rw [exS] at h
  refine (Classical.choose_spec (hall (wOnly X.K (.ref (U.ca i)) (fun _ _ _ => tRet (tC v)) W D))).2 B ρ σ F H D rel ?_
  cases ex : exSs (U.gm k) b' ρ with
  | bad =>
    rw [ex] at h
    exact h.elim
  | ok fl =>
    rw [ex] at h
    exact h
  | err c' pl ρ' =>
    rw [ex] at h
    intro σ' F' H' rel'
    simp only at h
    cases an : (U.gm k).anc c' i with
    | none =>
      rw [an] at h
      exact h.elim
    | some z =>
      rw [an] at h
      refine ⟨z, by rw [ok.K]; exact ok.ok.anc c' i z an, fun e a ha => ?_, fun e => ?_⟩
      · subst e
        exact h v σ' F' H' rel' (hv _ _)
      · subst e
        exact h σ' F' H' rel'
end
end PI
/-! Names side by side. -/
namespace PI
open PySem L2
def Pnd (K : PySem.W.Frag) (ρ : Rho) (σ : St) (F H : Hp) : List Sl → Fx → List V → Prop
  | [], B, vs => vs = [] ∧ Rel K B ρ σ F H
  | .val d :: ss, B, vs => ∃ v r, vs = v :: r ∧ Rp K F d v ∧ Pnd K ρ σ F H ss B r
  | .own 0 d :: ss, B, vs => ∃ r p l ws, vs = .ref p :: r ∧ d = .lst l ∧ RpL K F l ws ∧ Fre B p ∧ Pnd K ρ σ F H ss (B.hold p (.lst ws)) r
  | _, _, _ => False
def stSt : List Nat → List V → St → St
  | i :: js, v :: vs, σ => (stSt js vs σ).set i (some v)
  | _, _, σ => σ
def stFw : List Nat → List V → St → St
  | i :: js, v :: vs, σ => stFw js vs (σ.set i (some v))
  | _, _, σ => σ
section
variable {U : Wd} {K : PySem.W.Frag} {k : Nat} {c : Cc} {X : Cx} {W : WX} {B B' : Fx} {ρ : Rho} {σ : St} {F F1 H : Hp} {D : Ends}
theorem Pnd.store : ∀ {ss : List Sl} {B : Fx} {vs : List V} {js : List Nat} {ρ' : Rho}, Pnd K ρ σ F H ss B vs → stVars js ss ρ = some ρ' → Rel K B ρ' (stSt js vs σ) F H
  | [], B, vs, js, ρ', h, e => by
    obtain ⟨rfl, r⟩ := h
    cases js with
    | nil =>
      have e' : some ρ = some ρ' := e
      cases e'
      exact r
    | cons i js => simp [stVars] at e
  | s :: ss, B, vs, [], ρ', h, e => by simp [stVars] at e
  | .val d :: ss, B, vs, i :: js, ρ', h, e => by
    obtain ⟨v, r, rfl, hv, h⟩ := h
    rw [stVars] at e
    obtain ⟨ρ1, e1, e2⟩ := Option.bind_eq_some_iff.mp e
    obtain ⟨rfl, hl⟩ := stVar_eq e2
    exact (Pnd.store h e1).setVal i hv
  | .own 0 d :: ss, B, vs, i :: js, ρ', h, e => by
    obtain ⟨r, p, l, ws, rfl, rfl, hl, fr, h⟩ := h
    rw [stVars] at e
    obtain ⟨ρ1, e1, e2⟩ := Option.bind_eq_some_iff.mp e
    obtain ⟨rfl, hlt⟩ := stVar_eq e2
    obtain ⟨r1, h1, h2, h3⟩ := (Pnd.store h e1).unhold fr
    exact r1.setOwn h1 h2 fr.h0 ⟨ws, rfl, hl⟩ h3
  | .own (m + 1) d :: ss, B, vs, i :: js, ρ', h, e => h.elim
  | .no :: ss, B, vs, i :: js, ρ', h, e => h.elim
  | .lent d :: ss, B, vs, i :: js, ρ', h, e => h.elim
theorem Pnd.lay {a : Addr} {o : HO} (ha : H a = none) (nt : ∀ vs, o ≠ .tup vs) : ∀ {ss : List Sl} {B : Fx} {vs : List V}, Pnd K ρ σ F H ss B vs → Pnd K ρ σ F (upd H a o) ss B vs
  | [], B, vs, h => ⟨h.1, h.2.lay ha nt⟩
  | .val d :: ss, B, vs, ⟨v, r, e, hv, h⟩ => ⟨v, r, e, hv, Pnd.lay ha nt h⟩
  | .own 0 d :: ss, B, vs, ⟨r, p, l, ws, e, e2, hl, fr, h⟩ => ⟨r, p, l, ws, e, e2, hl, fr, Pnd.lay ha nt h⟩
  | .own (m + 1) d :: ss, B, vs, h => h.elim
  | .no :: ss, B, vs, h => h.elim
  | .lent d :: ss, B, vs, h => h.elim
theorem Pnd.new {a : Addr} (ha : H a = none) : ∀ {ss : List Sl} {B : Fx} {vs : List V}, Pnd K ρ σ F H ss B vs → F a = none
  | [], B, vs, h => h.2.newF ha
  | .val d :: ss, B, vs, ⟨v, r, e, hv, h⟩ => Pnd.new ha h
  | .own 0 d :: ss, B, vs, ⟨r, p, l, ws, e, e2, hl, fr, h⟩ => Pnd.new ha h
  | .own (m + 1) d :: ss, B, vs, h => h.elim
  | .no :: ss, B, vs, h => h.elim
  | .lent d :: ss, B, vs, h => h.elim
theorem Pnd.put {a : Addr} {o : HO} (ha : H a = none) : ∀ {ss : List Sl} {B : Fx} {vs : List V}, Pnd K ρ σ F H ss B vs → Pnd K ρ σ (upd F a o) (upd H a o) ss B vs
  | [], B, vs, h => ⟨h.1, h.2.put ha⟩
  | .val d :: ss, B, vs, ⟨v, r, e, hv, h⟩ => ⟨v, r, e, Rp.mono (same_upd (Pnd.new ha h)) hv, Pnd.put ha h⟩
  | .own 0 d :: ss, B, vs, ⟨r, p, l, ws, e, e2, hl, fr, h⟩ => ⟨r, p, l, ws, e, e2, RpL.mono (same_upd (Pnd.new ha h)) hl, fr, Pnd.put ha h⟩
  | .own (m + 1) d :: ss, B, vs, h => h.elim
  | .no :: ss, B, vs, h => h.elim
  | .lent d :: ss, B, vs, h => h.elim
theorem Pnd.any {a : Addr} {o : HO} (ha : H a = none) {ss : List Sl} {B : Fx} {vs : List V} (h : Pnd K ρ σ F H ss B vs) : ∃ F', Pnd K ρ σ F' (upd H a o) ss B vs := by
  by_cases z : ∃ vs, o = .tup vs
  · exact ⟨_, Pnd.put ha h⟩
  · exact ⟨_, Pnd.lay ha (fun vs e => z ⟨vs, e⟩) h⟩
theorem Pnd.len : ∀ {ss : List Sl} {B : Fx} {vs : List V}, Pnd K ρ σ F H ss B vs → vs.length = ss.length
  | [], B, vs, h => by
    rw [h.1]
    rfl
  | .val d :: ss, B, vs, ⟨v, r, e, hv, h⟩ => by rw [e, List.length_cons, List.length_cons, Pnd.len h]
  | .own 0 d :: ss, B, vs, ⟨r, p, l, ws, e, e2, hl, fr, h⟩ => by rw [e, List.length_cons, List.length_cons, Pnd.len h]
  | .own (m + 1) d :: ss, B, vs, h => h.elim
  | .no :: ss, B, vs, h => h.elim
  | .lent d :: ss, B, vs, h => h.elim
theorem stVars_len : ∀ {js : List Nat} {ss : List Sl} {ρ ρ' : Rho}, stVars js ss ρ = some ρ' → js.length = ss.length
  | [], [], _, _, _ => rfl
  | [], _ :: _, _, _, h => by simp [stVars] at h
  | _ :: _, [], _, _, h => by simp [stVars] at h
  | i :: js, s :: ss, ρ, ρ', h => by
    rw [stVars] at h
    obtain ⟨ρ1, e1, _⟩ := Option.bind_eq_some_iff.mp h
    rw [List.length_cons, List.length_cons, stVars_len e1]
theorem stFw_set : ∀ {js : List Nat} {vs : List V} {σ : St} {i : Nat} {x : Option V}, i ∉ js → stFw js vs (σ.set i x) = (stFw js vs σ).set i x
  | [], _, _, _, _, _ => rfl
  | _ :: _, [], _, _, _, _ => rfl
  | j :: js, v :: vs, σ, i, x, h => by
    have h1 : i ≠ j := fun e => h (by rw [e]; exact List.mem_cons_self)
    have h2 : i ∉ js := fun m => h (List.mem_cons_of_mem _ m)
    show stFw js vs ((σ.set i x).set j (some v)) = (stFw js vs (σ.set j (some v))).set i x
    rw [List.set_comm _ _ h1, stFw_set h2]
theorem stFw_eq : ∀ {js : List Nat} {vs : List V} {σ : St}, js.Nodup → stFw js vs σ = stSt js vs σ
  | [], _, _, _ => rfl
  | _ :: _, [], _, _ => rfl
  | j :: js, v :: vs, σ, h => by
    rw [List.nodup_cons] at h
    show stFw js vs (σ.set j (some v)) = (stSt js vs σ).set j (some v)
    rw [stFw_set h.1, stFw_eq h.2]
theorem tGs_names : ∀ {js : List Nat} {vs : List V} {σ : St} {Q : St → Hp → Prop}, vs.length = js.length → Q (stFw js vs σ) H → tGs K (js.map .name) vs σ H Q
  | [], [], _, _, _, q => ⟨rfl, q⟩
  | [], _ :: _, _, _, h, _ => by simp at h
  | _ :: _, [], _, _, h, _ => by simp at h
  | j :: js, v :: vs, σ, Q, h, q => ⟨v, vs, rfl, tGs_names (by simpa using h) q⟩

/-! ### values side by side -/
def TPok (U : Wd) (K : PySem.W.Frag) (k : Nat) (W : WX) (js : List E) (t : TA) : Prop := ∀ (B : Fx) (ρ : Rho) (σ : St) (F H : Hp) (Q : List V → Hp → Prop), Rel K B ρ σ F H →
  Po (evP (U.gm k) js ρ) (fun p => ∀ vs F' H', Pnd K p.2 σ F' H' p.1 B vs → Same F F' → Q vs H') (erE U K B σ W) → t σ H Q
theorem erE_hold {a : Addr} {ws : HO} (f : Fre B a) {cc : Nat} {pl : List PI.D} {ρ : Rho} (h : erE U K B σ W cc pl ρ) : erE U K (B.hold a ws) σ W cc pl ρ := fun F H r => h F H (r.unhold f).1
def SP (U : Wd) (k : Nat) (c : Cc) (es : List Expr) (js : List E) : Prop := es.all noStar = true ∧ ∀ (X : Cx) (W : WX), XOk U k c X → Takes X W → ∃ t, PA X es t ∧ TPok U X.K k W js t
theorem sp_nil : SP U k c [] [] := ⟨rfl, fun X W ok tk => ⟨_, pa_nil, fun B ρ σ F H Q rel h => h [] F H ⟨rfl, rel⟩ (Same.refl F)⟩⟩
theorem sp_cons {e : Expr} {es : List Expr} {j : E} {js : List E} (hs : noStar e = true) (se : SE U k c e j) (sa : SP U k c es js) : SP U k c (e :: es) (j :: js) := by
  refine ⟨by rw [List.all_cons, hs, sa.1]; rfl, fun X W ok tk => ?_⟩
  obtain ⟨te, pe, he⟩ := se X W ok tk
  obtain ⟨ta, pa, ha⟩ := sa.2 X W ok tk
  refine ⟨_, pa_cons pe pa (star_of hs es X.env), fun B ρ σ F H Q rel h => ?_⟩
  rw [evP] at h
  refine he B ρ σ F H _ rel (Po.mono (Po.bind h) (fun p hp v F1 H1 rel1 s1 rs1 => ?_) fun _ _ _ e => e)
  obtain ⟨r, ρ1⟩ := p
  have plain : ∀ {d : PI.D} {ρ2 : Rho}, give ρ1 r = some (d, ρ2) → Po (evP (U.gm k) js ρ2 >>= fun q => (pure (.val d :: q.1, q.2) : Out (List Sl × Rho))) (fun p => ∀ vs F' H', Pnd X.K p.2 σ F' H' p.1 B vs → Same F F' → Q vs H') (erE U X.K B σ W) → ta σ H1 fun vs H1 => Q (v :: vs) H1 := fun {d ρ2} e1 h2 => by
    obtain ⟨F2, s2, rel2, rs2⟩ := rs1.settle rel1
    obtain ⟨F3, s3, rel3, rp3⟩ := rs2.give rel2 e1
    refine ha B ρ2 σ F3 H1 _ rel3 (Po.mono (Po.bind h2) (fun q hq vs F' H' pn sm => ?_) fun _ _ _ e => e)
    exact hq (v :: vs) F' H' ⟨v, vs, rfl, Rp.mono sm rp3, pn⟩ (((s1.trans s2).trans s3).trans sm)
  cases r with
  | dat d => exact plain (d := d) (ρ2 := ρ1) rfl hp
  | pl i =>
    obtain ⟨⟨s, ρ2⟩, e1, h2⟩ := Po.ofO' (show Po (ofO ((give ρ1 (.pl i)).map fun p => (Sl.val p.1, p.2)) >>= fun q => evP (U.gm k) js q.2 >>= fun z => (pure (q.1 :: z.1, z.2) : Out (List Sl × Rho))) _ _ from hp)
    obtain ⟨⟨d, ρ3⟩, e2, e3⟩ := map_some e1
    cases e3
    exact plain e2 h2
  | fre d =>
    obtain ⟨p, o, g4, rfl, g1, g2, g3, g5⟩ := rs1
    cases d with
    | non => exact g4.elim
    | bl _ => exact g4.elim
    | int _ => exact g4.elim
    | str _ => exact g4.elim
    | tup _ => exact g4.elim
    | gl _ => exact g4.elim
    | scr _ => exact g4.elim
    | dic _ _ _ => exact hp.elim
    | lst ds =>
    obtain ⟨ws, rfl, g4⟩ := g4
    have h2 : Po (evP (U.gm k) js ρ1 >>= fun q => (pure (.own 0 (.lst ds) :: q.1, q.2) : Out (List Sl × Rho))) (fun p => ∀ vs F' H', Pnd X.K p.2 σ F' H' p.1 B vs → Same F F' → Q vs H') (erE U X.K B σ W) := hp
    have fr := rel1.fre g3 g2
    refine ha (B.hold p (.lst ws)) ρ1 σ F1 H1 _ (rel1.hold fr g1 g2 g5) (Po.mono (Po.bind h2) (fun q hq vs F' H' pn sm => ?_) fun _ _ _ e => erE_hold fr e)
    exact hq (.ref p :: vs) F' H' ⟨vs, p, ds, ws, rfl, rfl, RpL.mono sm g4, fr, pn⟩ (s1.trans sm)
theorem par_fin {js : List Nat} {es : List E} {t : TA} (ha : TPok U K k W es t) (rel : Rel K B ρ σ F H) (h : Po (exS (U.gm k) (.par js es) ρ) (okS K B D) (erS U K B W)) {Q : List V → Hp → Prop}
    (hq : ∀ vs H', vs.length = js.length → (∀ a o, H' a = none → D.nx (stSt js vs σ) (upd H' a o)) → D.nx (stSt js vs σ) H' → Q vs H') : t σ H Q := by
  rw [exS] at h
  refine ha B ρ σ F H _ rel (toE (Po.mono (Po.bind h) (fun p hp vs F' H' pn sm => ?_) fun _ _ _ e => e))
  obtain ⟨ss, ρ1⟩ := p
  obtain ⟨ρ2, e1, h2⟩ := Po.ofO' hp
  have hl : vs.length = js.length := pn.len.trans (stVars_len e1).symm
  exact hq vs H' hl (fun a o ha => by
    obtain ⟨F2, pn2⟩ := Pnd.any (o := o) ha pn
    exact h2 _ F2 _ (pn2.store e1)) (h2 _ F' H' (pn.store e1))
end
theorem sw_fold {gs es : List Expr} {k k2 : Nat} {p p2 : Pos} {env : Env} (h : es.all (foldedForSure 8) = true) : swappedStores [.Tuple gs k p] (.Tuple es k2 p2) env = pure none := by
  unfold swappedStores
  simp only [h, if_true]
  repeat (first | rfl | split)
theorem sw_len {gs es : List Expr} {k k2 : Nat} {p p2 : Pos} {env : Env} (h : (gs.length == 2 || gs.length == 3) = false) : swappedStores [.Tuple gs k p] (.Tuple es k2 p2) env = pure none := by
  unfold swappedStores
  simp only [h, Bool.not_false, Bool.true_or, if_true]
theorem bk_of {env : Env} (hk : env.scope.kind = .function) : env.blockKind = .function := by
  unfold Env.blockKind
  rw [hk]
  rfl
theorem noStar_any {es : List Expr} (h : es.all noStar = true) : (es.any fun | .Starred .. => true | _ => false) = false := by
  rw [List.any_eq_false]
  intro x hx
  have := List.all_eq_true.mp h x hx
  cases x <;> simp_all [noStar]
theorem sw_two {x y : Str} {p q : Pos} {a b : Expr} {k k2 : Nat} {pt p2 : Pos} {env : Env} (hk : env.scope.kind = .function) (hx : env.scope.names.lookup x = some .local) (hy : env.scope.names.lookup y = some .local) (hl : (q.line == p.line) = true) (hxy : (x == y) = false)
    (hs : [a, b].all noStar = true) (hf : [a, b].all (foldedForSure 8) = false) (hc : [a, b].all (constantsAlone 8) = false) : swappedStores [.Tuple [.Name x p, .Name y q] k pt] (.Tuple [a, b] k2 p2) env = pure (some [x, y]) := by
  have kx : env.kindOf x = some .local := hx
  have ky : env.kindOf y = some .local := hy
  have hyx : (y == x) = false := by
    rw [Bool.eq_false_iff] at hxy ⊢
    exact fun z => hxy (by simpa using (by simpa using z : y = x).symm)
  unfold swappedStores
  simp only [bk_of hk, noStar_any hs, hf, hc, kx, ky, hl, List.filterMap, List.head?, Option.map, Option.getD, Expr.pos, List.length]
  simp [List.eraseDups, List.eraseDupsBy, List.eraseDupsBy.loop, hxy, hyx]
  simp only [List.all_cons, List.all_nil, Bool.and_true, Bool.and_eq_true] at hs
  rintro (z | z)
  · cases a <;> simp [noStar] at hs z
  · cases b <;> simp [noStar] at hs z
theorem sw_three {x y z : Str} {p q r : Pos} {a b d : Expr} {k k2 : Nat} {pt p2 : Pos} {env : Env} (hk : env.scope.kind = .function) (hx : env.scope.names.lookup x = some .local) (hy : env.scope.names.lookup y = some .local) (hz : env.scope.names.lookup z = some .local) (hl : (q.line == p.line) = true) (hl2 : (r.line == p.line) = true)
    (hxy : (x == y) = false) (hxz : (x == z) = false) (hyz : (y == z) = false)
    (hs : [a, b, d].all noStar = true) (hf : [a, b, d].all (foldedForSure 8) = false) (hc : [a, b, d].all (constantsAlone 8) = false) : swappedStores [.Tuple [.Name x p, .Name y q, .Name z r] k pt] (.Tuple [a, b, d] k2 p2) env = pure (some [x, y, z]) := by
  have kx : env.kindOf x = some .local := hx
  have ky : env.kindOf y = some .local := hy
  have kz : env.kindOf z = some .local := hz
  have fl : ∀ {u v : Str}, (u == v) = false → (v == u) = false := fun {u v} h => by
    rw [Bool.eq_false_iff] at h ⊢
    exact fun z => h (by simpa using (by simpa using z : v = u).symm)
  have h1 := fl hxy
  have h2 := fl hxz
  have h3 := fl hyz
  unfold swappedStores
  simp only [bk_of hk, noStar_any hs, hf, hc, kx, ky, kz, hl, hl2, List.filterMap, List.head?, Option.map, Option.getD, Expr.pos, List.length]
  simp [List.eraseDups, List.eraseDupsBy, List.eraseDupsBy.loop, hxy, hxz, hyz, h1, h2, h3]
  simp only [List.all_cons, List.all_nil, Bool.and_true, Bool.and_eq_true] at hs
  rintro (z | z | z)
  · cases a <;> simp [noStar] at hs z
  · cases b <;> simp [noStar] at hs z
  · cases d <;> simp [noStar] at hs z
theorem lcl_no {env : Env} {x : Str} (h : lcl env.scope x = false) : (env.kindOf x == some .local) = false := by
  have e : env.kindOf x = env.scope.names.lookup x := rfl
  rw [e]
  unfold lcl at h
  split at h
  · cases h
  · rename_i n
    rw [Bool.eq_false_iff]
    exact fun z => n (by simpa using z)
theorem sw_mix2 {x y : Str} {p q : Pos} {es : List Expr} {k k2 : Nat} {pt p2 : Pos} {env : Env} (h : lcl env.scope x = false ∨ lcl env.scope y = false) : swappedStores [.Tuple [.Name x p, .Name y q] k pt] (.Tuple es k2 p2) env = pure none := by
  unfold swappedStores
  rcases h with h | h
  · have h' := lcl_no h
    simp only [h', List.filterMap, Bool.false_and]
    repeat (first | rfl | split | simp_all)
  · have h' := lcl_no h
    simp only [h', List.filterMap, Bool.false_and]
    repeat (first | rfl | split | simp_all)
theorem sw_mix3 {x y z : Str} {p q r : Pos} {es : List Expr} {k k2 : Nat} {pt p2 : Pos} {env : Env} (h : lcl env.scope x = false ∨ lcl env.scope y = false ∨ lcl env.scope z = false) : swappedStores [.Tuple [.Name x p, .Name y q, .Name z r] k pt] (.Tuple es k2 p2) env = pure none := by
  unfold swappedStores
  rcases h with h | h | h
  · have h' := lcl_no h
    simp only [h', List.filterMap, Bool.false_and]
    repeat (first | rfl | split | simp_all)
  · have h' := lcl_no h
    simp only [h', List.filterMap, Bool.false_and]
    repeat (first | rfl | split | simp_all)
  · have h' := lcl_no h
    simp only [h', List.filterMap, Bool.false_and]
    repeat (first | rfl | split | simp_all)
section
variable {U : Wd} {K : PySem.W.Frag} {k : Nat} {c : Cc} {X : Cx} {W : WX} {B B' : Fx} {ρ : Rho} {σ : St} {F F1 H : Hp} {D : Ends}
theorem names_pgs (ok : XOk U k c X) : ∀ {gs : List Expr} {js : List Nat}, gs.mapM (tgName c) = some js → PGs X gs (tGs X.K (js.map .name)) ∧ gs.all noStar = true ∧ gs.length = js.length
  | [], js, h => by
    simp at h
    subst h
    exact ⟨pgs_nil, rfl, rfl⟩
  | e :: es, js, h => by
    obtain ⟨j, js', h1, h2, rfl⟩ := mapM_cons_some h
    obtain ⟨i1, i2, i3⟩ := names_pgs ok h2
    cases e with
    | Name x p =>
      obtain ⟨n1, n2, n3⟩ := lslot_get (show c.lslot x = some j from h1) ok
      exact ⟨pgs_cons (pg_name ok.nd n1 n2 n3) i1 (by rw [assignEach_of rfl]; rfl), by rw [List.all_cons, i2]; rfl, by rw [List.length_cons, List.length_cons, i3]⟩
    | _ => simp [tgName] at h1
theorem lcl_of {sc : Scope} {x : Str} (h : lcl sc x = true) : sc.names.lookup x = some .local := by
  unfold lcl at h
  split at h
  · assumption
  · cases h
theorem par_none {gs es : List Expr} {js : List Nat} {es' : List E} {kt k2 : Nat} {pt p2 pos : Pos} (hg : gs.mapM (tgName c) = some js) (nd : js.Nodup) (hl : gs.length = es.length) (h20 : es.length < 20) (sp : SP U k c es es') (ok : SXOk U k c X) (tk : Takes X W)
    (hw : swappedStores [.Tuple gs kt pt] (.Tuple es k2 p2) X.env = pure none) : ∃ t, PS X (.Assign [.Tuple gs kt pt] (.Tuple es k2 p2) pos) t ∧ TSok U X.K k W (.par js es') t := by
  obtain ⟨ta, pa, ha⟩ := sp.2 X W ok.toXOk tk
  obtain ⟨g1, g2, g3⟩ := names_pgs ok.toXOk hg
  obtain ⟨a1, a2⟩ := assignEach_all (es := gs) X.env g2
  refine ⟨_, ps_asg (pe_tup pa) (pg_tup ok.calm g1 (a1.trans g3) a2) rfl hw rfl, fun B ρ σ F H D rel h => ?_⟩
  refine par_fin ha rel h fun vs H' hv hq _ => ⟨?_, fun p hp => ⟨p, vs, rfl, SqT.of upd_same, hv, tGs_names hv ?_⟩⟩
  · rw [sizeLine_eq]
    omega
  · rw [stFw_eq nd]
    exact hq p _ hp
theorem ss_par {gs es : List Expr} {js : List Nat} {es' : List E} {m : Bool} {kt k2 : Nat} {pt p2 pos : Pos} (hg : gs.mapM (tgName c) = some js) (nd : js.Nodup) (hl : gs.length = es.length) (h20 : es.length < 20) (hm : parMode c.sc gs es = some m) (sp : SP U k c es es') :
    SS U k c (.Assign [.Tuple gs kt pt] (.Tuple es k2 p2) pos) (.par js es') := by
  intro X W ok tk
  have hk : X.env.scope.kind = .function := by rw [ok.sc]; exact ok.fnk
  match gs, hg, hl, hm with
  | [], hg, hl, hm => exact par_none hg nd hl h20 sp ok tk (sw_len rfl)
  | [g1], hg, hl, hm => exact par_none hg nd hl h20 sp ok tk (sw_len rfl)
  | a :: b :: d :: e :: r, hg, hl, hm => exact par_none hg nd hl h20 sp ok tk (sw_len (by simp))
  | [g1, g2], hg, hl, hm =>
    cases g1 with
    | Name x p =>
      cases g2 with
      | Name y q =>
        simp only [parMode] at hm
        split at hm
        · rename_i cnd
          split at hm
          · cases hm
          · rename_i hc
            cases hm
            simp only [Bool.and_eq_true, Bool.not_eq_true'] at cnd
            obtain ⟨⟨⟨⟨l1, l2⟩, ll⟩, hxy⟩, hf⟩ := cnd
            obtain ⟨i, r1, e1, e2, rfl⟩ := mapM_cons_some hg
            obtain ⟨j, r2, e3, e4, rfl⟩ := mapM_cons_some e2
            simp at e4
            subst e4
            obtain ⟨n1, n2, n3⟩ := lslot_get (show c.lslot x = some i from e1) ok.toXOk
            obtain ⟨m1, m2, m3⟩ := lslot_get (show c.lslot y = some j from e3) ok.toXOk
            have hij : i ≠ j := by simpa using nd
            have x1 : X.env.scope.names.lookup x = some .local := by rw [ok.sc]; exact lcl_of l1
            have y1 : X.env.scope.names.lookup y = some .local := by rw [ok.sc]; exact lcl_of l2
            match es, hl, sp, hf, hc with
            | [a, b], _, sp, hf, hc =>
              obtain ⟨ta, pa, ha⟩ := sp.2 X W ok.toXOk tk
              refine ⟨_, ps_par ok.calm ok.nd n1 m1 hij x1 y1 pa (sw_two hk x1 y1 ll hxy sp.1 hf (by simpa using hc)) rfl, fun B ρ σ F H D rel h => par_fin ha rel h fun vs H' hv _ hq => ?_⟩
              match vs, hv with
              | [v, w], _ =>
                refine ⟨v, w, rfl, ?_⟩
                rw [List.set_comm _ _ hij]
                exact hq
        · split at hm
          · rename_i hf
            simp only [Bool.or_eq_true, Bool.not_eq_true'] at hf
            rcases hf with (hf | hf) | hf
            · exact par_none hg nd hl h20 sp ok tk (sw_fold hf)
            · exact par_none hg nd hl h20 sp ok tk (sw_mix2 (.inl (by rw [ok.sc]; exact hf)))
            · exact par_none hg nd hl h20 sp ok tk (sw_mix2 (.inr (by rw [ok.sc]; exact hf)))
          · cases hm
      | _ => simp [parMode] at hm
    | _ => simp [parMode] at hm
  | [g1, g2, g3], hg, hl, hm =>
    cases g1 with
    | Name x p =>
      cases g2 with
      | Name y q =>
        cases g3 with
        | Name z r =>
          simp only [parMode] at hm
          split at hm
          · rename_i cnd
            split at hm
            · cases hm
            · rename_i hc
              cases hm
              simp only [Bool.and_eq_true, Bool.not_eq_true'] at cnd
              obtain ⟨⟨⟨⟨⟨⟨⟨⟨l1, l2⟩, l3⟩, ll⟩, ll2⟩, hxy⟩, hxz⟩, hyz⟩, hf⟩ := cnd
              obtain ⟨i, r1, e1, e2, rfl⟩ := mapM_cons_some hg
              obtain ⟨j, r2, e3, e4, rfl⟩ := mapM_cons_some e2
              obtain ⟨l, r3, e5, e6, rfl⟩ := mapM_cons_some e4
              simp at e6
              subst e6
              obtain ⟨n1, n2, n3⟩ := lslot_get (show c.lslot x = some i from e1) ok.toXOk
              obtain ⟨m1, m2, m3⟩ := lslot_get (show c.lslot y = some j from e3) ok.toXOk
              obtain ⟨o1, o2, o3⟩ := lslot_get (show c.lslot z = some l from e5) ok.toXOk
              have hne : i ≠ j ∧ i ≠ l ∧ j ≠ l := by
                simp at nd
                exact ⟨nd.1.1, nd.1.2, nd.2⟩
              have x1 : X.env.scope.names.lookup x = some .local := by rw [ok.sc]; exact lcl_of l1
              have y1 : X.env.scope.names.lookup y = some .local := by rw [ok.sc]; exact lcl_of l2
              have z1 : X.env.scope.names.lookup z = some .local := by rw [ok.sc]; exact lcl_of l3
              match es, hl, sp, hf, hc with
              | [a, b, d], _, sp, hf, hc =>
                obtain ⟨ta, pa, ha⟩ := sp.2 X W ok.toXOk tk
                refine ⟨_, ps_par3 ok.calm ok.nd n1 m1 o1 hne.1 hne.2.1 hne.2.2 x1 y1 z1 pa (sw_three hk x1 y1 z1 ll ll2 hxy hxz hyz sp.1 hf (by simpa using hc)) rfl, fun B ρ σ F H D rel h => par_fin ha rel h fun vs H' hv _ hq => ?_⟩
                match vs, hv with
                | [u, v, w], _ =>
                  refine ⟨u, v, w, rfl, ?_⟩
                  have hq' : D.nx (((σ.set l (some w)).set j (some v)).set i (some u)) H' := hq
                  rw [List.set_comm _ _ hne.2.2.symm, List.set_comm _ _ hne.2.1.symm, List.set_comm _ _ hne.1.symm] at hq'
                  exact hq'
          · split at hm
            · rename_i hf
              simp only [Bool.or_eq_true, Bool.not_eq_true'] at hf
              rcases hf with ((hf | hf) | hf) | hf
              · exact par_none hg nd hl h20 sp ok tk (sw_fold hf)
              · exact par_none hg nd hl h20 sp ok tk (sw_mix3 (.inl (by rw [ok.sc]; exact hf)))
              · exact par_none hg nd hl h20 sp ok tk (sw_mix3 (.inr (.inl (by rw [ok.sc]; exact hf))))
              · exact par_none hg nd hl h20 sp ok tk (sw_mix3 (.inr (.inr (by rw [ok.sc]; exact hf))))
            · cases hm
        | _ => simp [parMode] at hm
      | _ => simp [parMode] at hm
    | _ => simp [parMode] at hm
end
end PI
/-! A def out of a list of defs. -/
namespace PI
open PySem L2
section
variable {U : Wd} {K : PySem.W.Frag} {k : Nat} {c : Cc} {X : Cx} {W : WX} {B B' : Fx} {ρ : Rho} {σ : St} {F F1 H : Hp} {D : Ends}
/-- the defs in a display -/
theorem pa_fns (ok : XOk U k c X) : ∀ {fs : List Expr} {ks : List Nat}, fs.mapM (menuFn c) = some ks → ∃ t, PA X fs t ∧ ∀ σ H Q, Q (ks.map fun j => V.ref (U.fa j)) H → t σ H Q
  | [], ks, h => by
    simp at h
    subst h
    exact ⟨_, pa_nil, fun _ _ _ q => q⟩
  | e :: fs, ks, h => by
    obtain ⟨j, ks', h1, h2, rfl⟩ := mapM_cons_some h
    obtain ⟨t, p, q⟩ := pa_fns ok h2
    cases e with
    | Name x pos =>
      simp only [menuFn] at h1
      split at h1
      · rename_i j' hf
        cases h1
        obtain ⟨hx, hg, hdb⟩ := fn_get hf ok
        obtain ⟨m1, m2, m3, _⟩ := ok.ok.fmg x _ false hx
        rw [← ok.mg] at m1
        exact ⟨_, pa_cons (pe_glob (v := .ref (U.fa j)) hg m1 rfl hdb) p (star_of rfl fs X.env), fun σ H Q hq => q σ H _ hq⟩
      · cases h1
    | _ => simp [menuFn] at h1
/-- (an expression that names a def)(e, ..) -/
def tMenu (U : Wd) (X : Cx) (k : Nat) (W : WX) (tf : TE) (t : TA) : TE := fun σ H Q => tf σ H fun v H1 => ∃ j, v = .ref (U.fa j) ∧ FnG X.prog X.w X.K X.mg X.base k (U.fa j) (U.fd j) (U.ps j) (spI U k j) ∧ PySem.W.keepIn X.K (.ref (U.fa j)) = true ∧ Binds X.K (U.fd j) (U.ps j) [] ∧
  t σ H1 fun vs H2 => spI U k j vs H2 Q (WE W σ)
theorem pe_menu {fe e : Expr} {es : List Expr} {tf : TE} {t : TA} {pos : Pos} (hr : Room k X.A) (hgd : X.A.guards = some []) (tk : Takes X W) (hf : PE X fe tf) (hs : (e :: es).all noStar = true) (ha : PA X (e :: es) t)
    (he : eval (.Call fe (e :: es) [] pos) X.env = (do callWith pos (← eval fe X.env) [] (backTo pos (starEach (e :: es) X.env)) (backToKw pos (keywordEach [] X.env)))) : PE X (.Call fe (e :: es) [] pos) (tMenu U X k W tf t) := by
  refine ⟨fun pins s σ H Q I h => PyProof.Rows.Call_ (thn (hf.run pins s σ H _ I h) fun fv s0 ⟨v, H0, I0, rv, q0⟩ => ?_) he⟩
  obtain ⟨j, rfl, G, hk, hb, q⟩ := q0
  cases rv
  rw [List.all_cons, Bool.and_eq_true] at hs
  exact PySem.W.callWith_K (h₀ := X.base) I0.ok.mod.kin hk (thn (ha.run pos pins s0 σ H0 _ I0 q) fun us s1 ⟨vs, H1, I1, rv, q⟩ => ⟨I1.kIn, run_g G hr hgd hb tk I1 rv q⟩) (star_of hs.1 es X.env) (star_any es X.env pos hs.2)
theorem menu_names : ∀ {fs : List Expr} {ks : List Nat}, fs.mapM (menuFn c) = some ks → fs.length = ks.length ∧ ∀ j ∈ ks, ∃ x, c.fn x = some (j, false)
  | [], ks, h => by
    simp at h
    subst h
    exact ⟨rfl, fun j hj => by simp at hj⟩
  | e :: fs, ks, h => by
    obtain ⟨j, ks', h1, h2, rfl⟩ := mapM_cons_some h
    obtain ⟨i1, i2⟩ := menu_names h2
    refine ⟨by rw [List.length_cons, List.length_cons, i1], fun l hl => ?_⟩
    rcases List.mem_cons.mp hl with rfl | hl
    · cases e with
      | Name x pos =>
        simp only [menuFn] at h1
        split at h1
        · rename_i j' hf
          cases h1
          exact ⟨x, hf⟩
        · cases h1
      | _ => simp [menuFn] at h1
    · exact i2 l hl
theorem s_menu {fs : List Expr} {ks : List Nat} {ie e : Expr} {es : List Expr} {i : E} {js : List E} {lp sp pos : Pos} (hf : fs.mapM (menuFn c) = some ks) (h20 : fs.length < 20) (hi : noSlice ie = true) (si : SE U k c ie i) (sa : SA U k c (e :: es) js) :
    SE U k c (.Call (.Subscript (.List fs lp) ie sp) (e :: es) [] pos) (.menu ks i js) := by
  intro X W ok tk
  obtain ⟨tn, pn, hn⟩ := pa_fns ok hf
  obtain ⟨ml, mn⟩ := menu_names hf
  obtain ⟨ti, pi, hi'⟩ := si X W ok tk
  obtain ⟨ta, pa, ha⟩ := sa.2 X W ok tk
  refine ⟨_, pe_menu (U := U) ok.room ok.grd tk (pe_ix ix_list (pe_lst pn) pi (plainIx_of hi)) sa.1 pa rfl, fun B ρ σ F H Q rel h => ?_⟩
  rw [ev] at h
  refine hn σ H _ ⟨by rw [List.length_map, ← ml, sizeLine_eq]; omega, fun p hp => ?_⟩
  have fr : Fre B p := rel.fre (rel.new0 hp) (rel.newF hp)
  have rel0 : Rel X.K (B.hold p (.lst (ks.map fun j => V.ref (U.fa j)))) ρ σ F (upd H p (.lst (ks.map fun j => V.ref (U.fa j)))) := (rel.lay hp).hold fr upd_same (rel.newF hp) (rel.notOwn hp)
  refine hi' (B.hold p (.lst (ks.map fun j => V.ref (U.fa j)))) ρ σ F _ _ rel0 (Po.mono (Po.bind h) (fun q0 h1 v F0 H1 rel0' s0 rs0 => ?_) fun _ _ _ e => erE_hold fr e)
  obtain ⟨r, ρ1⟩ := q0
  obtain ⟨F1, s01, rel1, rs1⟩ := rs0.settle rel0'
  have s1 : Same F F1 := s0.trans s01
  obtain ⟨r1, hp1, _, _⟩ := rel1.unhold fr
  obtain ⟨x, e1, h2⟩ := Po.ofO' h1
  obtain ⟨n, e2, h3⟩ := Po.ofO' h2
  have ex := int_get e2
  subst ex
  have hv : v = .int n := rs1.read (Same.refl F1) rel1 e1
  subst hv
  obtain ⟨f, e3, h4⟩ := Po.ofO' h3
  obtain ⟨j, e4, e5⟩ := Option.bind_eq_some_iff.mp e3
  have hat : atI (ks.map fun j => V.ref (U.fa j)) n = some (V.ref (U.fa f)) := by
    show (ixN (ks.map fun j => V.ref (U.fa j)).length n).bind _ = _
    rw [List.length_map]
    have e4' : ixN ks.length n = some j := e4
    rw [e4', Option.bind_some, List.getElem?_map, e5]
    rfl
  refine ⟨p, _, n, _, rfl, rfl, SqL.of hp1, hat, f, rfl, ?_⟩
  obtain ⟨x, hx⟩ := mn f (List.mem_of_getElem? e5)
  obtain ⟨hx', hg, hdb⟩ := fn_get hx ok
  obtain ⟨m1, m2, m3, _⟩ := ok.ok.fmg x f false hx'
  rw [← ok.K] at m2 m3
  refine ⟨fnG_at ok hx', m2, m3, ?_⟩
  have h5 : Po (evs (U.gm k) js ρ1 >>= fun q => callOut q.2 (callN U.pg k f q.1)) (okE X.K B σ F Q) (erE U X.K B σ W) := h4
  exact ha B ρ1 σ F1 H1 _ r1 (Po.mono (Po.bind h5) (fun q hq vs F' H' rel' sm rl => call_back ok tk rel' (s1.trans sm) rl hx' rfl hq) fun _ _ _ e => e)
end
end PI
/-! isinstance. -/
namespace PI
open PySem L2
section
variable {U : Wd} {K : PySem.W.Frag} {k : Nat} {c : Cc} {X : Cx} {W : WX}
theorem tyx_tup {H : Hp} {a : Addr} {xs : List V} (h : SqT K H a xs) : TyX K H (.ref a) (.type "tuple") := by
  rcases h with (h | ⟨o, h⟩) | ⟨o, its, n, h1, h2, _⟩
  · exact .base (.tup h)
  · exact .fTuple h
  · exact .kTuple h1 h2
def tyN : Nat → String
  | 0 => "int" | 1 => "str" | 2 => "tuple" | _ => "list"
theorem isa_kit {F H : Hp} {d : D} {v : V} {t : Nat} {b : Bool} (sub : Same F H) (h : Rq K F H d v) (e : isaD t d = some b) : ∃ T, TyX K H v T ∧ PySem.W.kitOne K T (.type (tyN t)) = some b := by
  cases d with
  | non =>
    have h' : v = V.non := h
    subst h'
    refine ⟨_, .base .non, ?_⟩
    match t with
    | 0 => cases e; exact kit_ty (by decide +kernel)
    | 1 => cases e; exact kit_ty (by decide +kernel)
    | 2 => cases e; exact kit_ty (by decide +kernel)
    | 3 => cases e; exact kit_ty (by decide +kernel)
    | n + 4 => cases e
  | bl x =>
    have h' : v = V.bl x := h
    subst h'
    refine ⟨_, .base (.bl x), ?_⟩
    match t with
    | 0 => cases e; exact kit_ty (by decide +kernel)
    | 1 => cases e; exact kit_ty (by decide +kernel)
    | 2 => cases e; exact kit_ty (by decide +kernel)
    | 3 => cases e; exact kit_ty (by decide +kernel)
    | n + 4 => cases e
  | int x =>
    have h' : v = V.int x := h
    subst h'
    refine ⟨_, .base (.int x), ?_⟩
    match t with
    | 0 => cases e; exact kit_ty (by decide +kernel)
    | 1 => cases e; exact kit_ty (by decide +kernel)
    | 2 => cases e; exact kit_ty (by decide +kernel)
    | 3 => cases e; exact kit_ty (by decide +kernel)
    | n + 4 => cases e
  | str x =>
    have h' : v = V.str x := h
    subst h'
    refine ⟨_, .base (.str x), ?_⟩
    match t with
    | 0 => cases e; exact kit_ty (by decide +kernel)
    | 1 => cases e; exact kit_ty (by decide +kernel)
    | 2 => cases e; exact kit_ty (by decide +kernel)
    | 3 => cases e; exact kit_ty (by decide +kernel)
    | n + 4 => cases e
  | tup x =>
    obtain ⟨a, vs, rfl, h2, _⟩ := (h : ∃ a vs, v = .ref a ∧ F a = some (.tup vs) ∧ RpL K F x vs)
    refine ⟨_, tyx_tup (Same.tupT sub h2), ?_⟩
    match t with
    | 0 => cases e; exact kit_ty (by decide +kernel)
    | 1 => cases e; exact kit_ty (by decide +kernel)
    | 2 => cases e; exact kit_ty (by decide +kernel)
    | 3 => cases e; exact kit_ty (by decide +kernel)
    | n + 4 => cases e
  | lst x =>
    obtain ⟨a, vs, rfl, h2, _⟩ := h
    refine ⟨_, .base (.lst h2), ?_⟩
    match t with
    | 0 => cases e; exact kit_ty (by decide +kernel)
    | 1 => cases e; exact kit_ty (by decide +kernel)
    | 2 => cases e; exact kit_ty (by decide +kernel)
    | 3 => cases e; exact kit_ty (by decide +kernel)
    | n + 4 => cases e
  | dic _ _ _ => match t with
    | 0 => cases e
    | 1 => cases e
    | 2 => cases e
    | 3 => cases e
    | n + 4 => cases e
  | gl _ => match t with
    | 0 => cases e
    | 1 => cases e
    | 2 => cases e
    | 3 => cases e
    | n + 4 => cases e
  | scr _ => match t with
    | 0 => cases e
    | 1 => cases e
    | 2 => cases e
    | 3 => cases e
    | n + 4 => cases e
theorem tyOf_rule {x : Str} {n : Nat} (h : tyOf x = some n) : bootBuiltins x = some (.type (tyN n)) ∧ x ∈ (["len", "sum", "all", "any", "tuple", "list", "sorted", "min", "max", "int", "str", "repr", "abs", "dict", "range", "enumerate", "zip", "isinstance"] : List Str) := by
  obtain ⟨b1, b2, b3, b4, b5, b6, b7, b8, b9, b10, b11, b12, b13, _⟩ := boot_all
  unfold tyOf at h
  rcases if_or h with ⟨rfl, rfl⟩ | h
  · exact ⟨b10, by simp⟩
  rcases if_or h with ⟨rfl, rfl⟩ | h
  · exact ⟨b11, by simp⟩
  rcases if_or h with ⟨rfl, rfl⟩ | h
  · exact ⟨b5, by simp⟩
  rcases if_or h with ⟨rfl, rfl⟩ | h
  · exact ⟨b6, by simp⟩
  cases h
theorem s_isa {a : Expr} {t : Str} {n : Nat} {a' : E} {p p2 pos : Pos} (hc : c.blt "isinstance" = true) (ht : c.blt t = true) (hk : tyOf t = some n) (hs : noStar a = true) (sa : SE U k c a a') : SE U k c (.Call (.Name "isinstance" p) [a, .Name t p2] [] pos) (.isa a' n) := by
  intro X W ok tk
  obtain ⟨g1, g2⟩ := tyOf_rule hk
  obtain ⟨_, _, _, _, _, _, _, _, _, _, _, _, _, b14, _⟩ := boot_all
  obtain ⟨m1, m2, m3, m4⟩ := bltin_mg hc ok (by simp)
  obtain ⟨q1, q2, q3, q4⟩ := bltin_mg ht ok g2
  obtain ⟨ta, pa, ha⟩ := sa X W ok tk
  have py : PE X (.Name t p2) (tC (.ty (tyN n))) := pe_bltn q2 q1 g1 rfl q4 q3
  refine ⟨_, pe_callB call_isi m2 m1 b14 (pa_cons pa (pa_cons py pa_nil (star_of rfl [] X.env)) (star_of hs _ X.env)) m4 m3 (star_of hs _ X.env) (star_any _ X.env pos rfl), fun B ρ σ F H Q rel h => ?_⟩
  rw [ev] at h
  refine one ha rel h fun r ρ1 v F1 H1 rel1 s1 rs1 h1 => ?_
  obtain ⟨x, e1, h2⟩ := Po.ofO' h1
  obtain ⟨b, e2, h3⟩ := Po.ofO' h2
  obtain ⟨T, k1, k2⟩ := isa_kit rel1.sub (rs1.read (Same.refl F1) rel1 e1) e2
  exact ⟨v, .ty (tyN n), T, .type (tyN n), b, rfl, .ty _, k1, k2, h3 (.bl b) F1 H1 rel1 s1 rfl⟩
end
end PI
/-! Displays of dicts. -/
namespace PI
open PySem L2
section
variable {U : Wd} {K : PySem.W.Frag} {k : Nat} {c : Cc} {X : Cx} {W : WX}
def flatP : List (V × V) → List V
  | [] => []
  | p :: r => p.1 :: p.2 :: flatP r
def TKok (U : Wd) (K : PySem.W.Frag) (k : Nat) (W : WX) (js : List E) (t : List (TE × TE)) : Prop := ∀ (B : Fx) (ρ : Rho) (σ : St) (F H : Hp) (Q : List (V × V) → Hp → Prop), Rel K B ρ σ F H →
  Po (evs (U.gm k) js ρ) (fun p => ∀ vs F' H', Rel K B p.2 σ F' H' → Same F F' → RpL K F' p.1 (flatP vs) → Q vs H') (erE U K B σ W) → tPairs t σ H Q
def SKv (U : Wd) (k : Nat) (c : Cc) (ks : List (Option Expr)) (es : List Expr) (js : List E) : Prop := ks.all (·.isSome) = true ∧ ∀ (X : Cx) (W : WX) (pos : Pos), XOk U k c X → Takes X W → ∃ t, PPs X pos ks es t ∧ TKok U X.K k W js t
theorem skv_nil : SKv U k c [] [] [] := ⟨rfl, fun X W pos ok tk => ⟨_, pps_nil, fun B ρ σ F H Q rel h => by
  rw [evs] at h
  exact h [] F H rel (Same.refl F) rfl⟩⟩
theorem skv_cons {a b : Expr} {ks : List (Option Expr)} {es : List Expr} {i j : E} {js : List E} (sa : SE U k c a i) (sb : SE U k c b j) (sr : SKv U k c ks es js) : SKv U k c (some a :: ks) (b :: es) (i :: j :: js) := by
  refine ⟨by rw [List.all_cons, sr.1]; rfl, fun X W pos ok tk => ?_⟩
  obtain ⟨ta, pa, ha⟩ := sa X W ok tk
  obtain ⟨tb, pb, hb⟩ := sb X W ok tk
  obtain ⟨tr, pr, hr⟩ := sr.2 X W pos ok tk
  refine ⟨_, pps_cons pa pb pr, fun B ρ σ F H Q rel h => ?_⟩
  rw [evs] at h
  refine one ha rel h fun r ρ1 v F1 H1 rel1 s1 rs1 h1 => ?_
  obtain ⟨⟨d, ρ2⟩, e1, h2⟩ := Po.ofO' h1
  obtain ⟨F2, s2, rel2, rp2⟩ := rs1.give rel1 e1
  have h2' := Po.bind (x := evs (U.gm k) (j :: js) ρ2) h2
  rw [evs] at h2'
  refine one hb rel2 h2' fun q ρ3 u F3 H3 rel3 s3 rs3 h3 => ?_
  obtain ⟨⟨e, ρ4⟩, e2, h4⟩ := Po.ofO' h3
  obtain ⟨F4, s4, rel4, rp4⟩ := rs3.give rel3 e2
  refine hr B _ σ F4 H3 _ rel4 (Po.mono (Po.bind h4) (fun q hq vs F' H' rel' sm rl => ?_) fun _ _ _ e => e)
  exact hq ((v, u) :: vs) F' H' rel' ((((s1.trans s2).trans s3).trans s4).trans sm) ⟨v, _, rfl, Rp.mono ((s3.trans s4).trans sm) rp2, u, _, rfl, Rp.mono sm rp4, rl⟩
theorem puts_ok {F : Hp} : ∀ {ds ks vs : List D} {us : List V} {js : List Key} {ps : List (V × V)} {d : List D × List D}, putsD ks vs ds = some d → RpL K F ds (flatP ps) → ks.mapM keyD = some js → ks.length = us.length → RpL K F vs us →
    ∃ kvs : List (Key × V), ps = kvs.map (fun kv => (kV kv.1, kv.2)) ∧ kvs.length * 2 = ds.length ∧ ∃ js' us', d.1.mapM keyD = some js' ∧ d.1.length = us'.length ∧ RpL K F d.2 us' ∧ js'.zip us' = mergeK (js.zip us) kvs
  | [], ks, vs, us, js, ps, d, h, r, h1, h2, h3 => by
    cases h
    cases ps with
    | nil => exact ⟨[], rfl, rfl, js, us, h1, h2, h3, rfl⟩
    | cons p ps => simp [flatP, RpL] at r
  | [x], ks, vs, us, js, ps, d, h, r, h1, h2, h3 => by simp [putsD] at h
  | x :: y :: ds, ks, vs, us, js, ps, d, h, r, h1, h2, h3 => by
    cases ps with
    | nil => simp [flatP, RpL] at r
    | cons p ps =>
      obtain ⟨a, r', e1, ra, b, r2, e2, rb, rl⟩ := r
      simp only [flatP, List.cons.injEq] at e1
      obtain ⟨rfl, e1⟩ := e1
      rw [← e1] at e2
      simp only [List.cons.injEq] at e2
      obtain ⟨rfl, rfl⟩ := e2
      rw [putsD] at h
      split at h
      · rename_i hk
        obtain ⟨kk, hkk⟩ := keyD_of hk
        obtain ⟨js', us', g1, g2, g3, g4⟩ := put_key (f := keyD) keyD_eqv hkk rb h1 h2 h3
        obtain ⟨kvs, q1, q2, js2, us2, q3, q4, q5, q6⟩ := puts_ok h rl g1 g2 g3
        refine ⟨(kk, p.2) :: kvs, ?_, by simp; omega, js2, us2, q3, q4, q5, ?_⟩
        · rw [List.map_cons, ← q1, ← kV_of hkk ra]
        · rw [q6, g4]
          rfl
      · cases h
theorem s_dsp {ks : List (Option Expr)} {es : List Expr} {js : List E} {pos : Pos} (hl : ks.length = es.length) (h15 : ks.length ≤ 15) (h0 : ks ≠ []) (S : SKv U k c ks es js) : SE U k c (.Dict ks es pos) (.dsp js) := by
  intro X W ok tk
  obtain ⟨t, pt, ht⟩ := S.2 X W pos ok tk
  refine ⟨_, pe_disp pt S.1 hl h0 h15, fun B ρ σ F H Q rel h => ?_⟩
  rw [ev] at h
  intro p hp
  have fr : Fre B p := rel.fre (rel.new0 hp) (rel.newF hp)
  have rel0 : Rel X.K (B.hold p (.dK [])) ρ σ F (upd H p (.dK [])) := (rel.lay hp).hold fr upd_same (rel.newF hp) (rel.notOwn hp)
  refine ht (B.hold p (.dK [])) ρ σ F _ _ rel0 (Po.mono (Po.bind h) (fun q hq vs F' H' rel' sm rl => ?_) fun _ _ _ e => erE_hold fr e)
  obtain ⟨r1, hp1, fp1, off1⟩ := rel'.unhold fr
  refine ⟨hp1, ?_⟩
  by_cases z : q.1.length ≤ 30
  · simp only [z, if_true] at hq
    obtain ⟨d, e1, h2⟩ := Po.ofO' hq
    obtain ⟨kvs, q1, q2, js', us', q3, q4, q5, q6⟩ := puts_ok (js := []) (us := []) e1 rl rfl rfl rfl
    refine ⟨kvs, q1, by omega, ?_⟩
    exact h2 (.ref p) F' _ (r1.write fr fp1 off1) sm ⟨p, _, ⟨us', ⟨q4, js', q3, by rw [q6]; rfl⟩, q5⟩, rfl, upd_same, fp1, fr.h0, off1⟩
  · simp only [z, if_false] at hq
    exact hq.elim
end
end PI
/-! Displays with stars, x[::-1]. -/
namespace PI
open PySem L2 PySem.Spec PyProof.Rows
theorem PE.or {X : Cx} {e : Expr} {t t' : TE} (h : PE X e t) (h' : PE X e t') : PE X e (fun σ H Q => t σ H Q ∨ t' σ H Q) := ⟨fun pins s σ H Q I q => q.elim (h.run pins s σ H Q I) (h'.run pins s σ H Q I)⟩
section
variable {prog : Program} {w : World} {A : Around} {E : Value → Shared → Prop} {s : Shared}
/-- a slice by a step back, all of it -/
theorem slAppl_back {sl : Addr} {vs : Value} {n : Nat} {Q : Int × Int × Nat → Shared → Prop} (hs : s.heap.IsSliceOf sl .none .none vs) (ps : IsPart vs (some (-1))) (h : Q ((n : Int) - 1, -1, n) s) :
    wpAny (model prog w) A (Builtin.Slice.sliceApplied (.ref sl) (pure (n : Int))) Q E s := by
  obtain ⟨o, h1, h2, h3⟩ := id hs
  unfold Builtin.Slice.sliceApplied Builtin.Slice.sliceFields
  refine wpAny_bind (wpAny_bind (wpAny_field h1 h3 (x := .none) rfl (wpAny_bind (wpAny_field h1 h3 (x := .none) rfl (wpAny_bind (wpAny_field h1 h3 (x := vs) rfl (wpAny_pure ?_)))))))
  refine wpAny_bind (HT.slicePart_ ps ?_)
  show wpAny _ _ (if ((-1 : Int) == 0) = true then _ else _) _ _ s
  rw [if_neg (by decide : ¬ ((-1 : Int) == 0) = true)]
  refine wpAny_bind (slicePart_none (wpAny_bind (slicePart_none (wpAny_bind (wpAny_pure ?_)))))
  have e : Builtin.Slice.slicePlaces ((n : Int) - 1) (-1) (-1) = n := by
    unfold Builtin.Slice.slicePlaces
    rw [if_neg (by decide)]
    by_cases z : n = 0
    · subst z
      rfl
    · rw [if_pos (by omega), show (-(-1 : Int)) = 1 from rfl, Int.ediv_one]
      omega
  show wpAny _ _ (pure ((n : Int) - 1, (-1 : Int), Builtin.Slice.slicePlaces ((n : Int) - 1) (-1) (-1))) Q E s
  rw [e]
  exact wpAny_pure h
theorem fm_congr {α β : Type} {f g : α → Option β} : ∀ {l : List α}, (∀ a ∈ l, f a = g a) → l.filterMap f = l.filterMap g
  | [], _ => rfl
  | a :: l, h => by
    rw [List.filterMap_cons, List.filterMap_cons, h a List.mem_cons_self, fm_congr fun b hb => h b (List.mem_cons_of_mem _ hb)]
theorem pick_back (xs : Array Value) : ((List.range xs.size).filterMap fun (m : Nat) => xs[(((xs.size : Int) - 1) + (m : Int) * (-1)).toNat]?) = xs.toList.reverse := by
  have e : ((List.range xs.size).filterMap fun (m : Nat) => xs[(((xs.size : Int) - 1) + (m : Int) * (-1)).toNat]?) = ((List.range xs.size).map fun m => xs.size - 1 - m).filterMap (xs[·]?) := by
    rw [List.filterMap_map]
    refine fm_congr fun m hm => ?_
    rw [List.mem_range] at hm
    have e2 : (((xs.size : Int) - 1) + (m : Int) * (-1)).toNat = xs.size - 1 - m := by omega
    show xs[(((xs.size : Int) - 1) + (m : Int) * (-1)).toNat]? = xs[xs.size - 1 - m]?
    rw [e2]
  rw [e, PySem.W.krv_range, List.filterMap_reverse, PySem.W.krv_all]
theorem tup_back {t sl : Addr} {its : Array Value} {vs : Value} {Q : Value → Shared → Prop} (ht : IsTup s.heap t its) (hs : s.heap.IsSliceOf sl .none .none vs) (ps : IsPart vs (some (-1)))
    (h : Q (.ref s.heap.objs.size) { s with heap := s.heap.push { cls := .type "tuple", data := .seq its.toList.reverse.toArray } }) (hz : its.size ≤ sizeLine) : wpAny (model prog w) A (getItem (.ref t) (.ref sl)) Q E s := by
  have fits : sizeOk (.seq its.toList.reverse.toArray) := by
    show its.toList.reverse.toArray.size ≤ sizeLine
    simpa using hz
  obtain ⟨o, h1, h2, _⟩ := id hs
  have hT : s.TypeIs (.ref sl) "slice" := ⟨o, h1, h2⟩
  unfold getItem
  try with_reducible refine wpAny_holding ?_
  try first | (refine wpAny_bind (wpAny_pure ?_))
  refine wpAny_bind (wpAny_sequenceKey ht.typeIs (by decide) (wpAny_bind ?_))
  refine wpAny_callSpecial?_slot (name := Str.ofString "__getitem__") ht.typeIs PyProof.Rows.slot_tuple_getitem (wpAny_call_entry PyProof.Rows.slot_tuple_getitem ht.typeIs entry_tuple_getitem ?_ (args_tuple_getitem _ _))
  show wpAny _ _ (Builtin.Tuple.tupleItemsOf (.ref t) >>= _) _ _ s
  refine wpAny_bind (tupleItemsOf_ ht (wpAny_bind (wpAny_typeOf hT ?_)))
  rw [if_pos (by decide)]
  refine wpAny_bind (slAppl_back (n := its.size) hs ps ?_)
  have no : ¬ ((((its.size : Int) - 1) == 0 && (-1 : Int) == 1 && its.size == its.size) = true) := by simp
  show wpAny _ _ (if (((its.size : Int) - 1) == 0 && (-1 : Int) == 1 && its.size == its.size) = true then _ else _) _ _ s
  rw [if_neg no]
  have e := pick_back its
  first
    | (rw [e]; exact wpAny_bind (wpAny_bind (m := Builtin.Tuple.tupleExact _) (wpAny_newObj_type (wpAny_pure (wpAny_pure ⟨_, rfl, wpAny_pure h⟩)) fits)))
    | (rw [e]; exact wpAny_bind (m := Builtin.Tuple.tupleExact _) (wpAny_newObj_type (wpAny_pure ⟨_, rfl, wpAny_pure h⟩) fits))
    | (rw [e]; exact wpAny_bind (m := Builtin.Tuple.tupleExact _) (wpAny_newObj_type (wpAny_bind (wpAny_pure (wpAny_pure ⟨_, rfl, wpAny_pure h⟩))) fits))
    | (rw [e]; exact wpAny_bind (wpAny_bind (m := Builtin.Tuple.tupleExact _) (wpAny_newObj_type (wpAny_pure ⟨_, rfl, wpAny_pure h⟩) fits)))
    | (rw [e]; exact wpAny_bind (wpAny_bind (m := Builtin.Tuple.tupleExact _) (wpAny_newObj_type (wpAny_pure (wpAny_pure ⟨_, rfl, wpAny_pure h⟩)) fits)))
end
section
variable {X : Cx}
def tRevT (K : PySem.W.Frag) (te : TE) : TE := fun σ H Q => te σ H fun x H1 => ∃ a xs, x = .ref a ∧ SqT K H1 a xs ∧ ∀ p, H1 p = none → Q (.ref p) (upd H1 p (.tup xs.reverse))
theorem pe_revT {e : Expr} {te : TE} {k : Nat} {p1 p2 p3 pos : Pos} (he : PE X e te) : PE X (.Subscript e (.Slice none none (some (.UnaryOp .USub (.Constant (.int 1) k p1) p2)) p3) pos) (tRevT X.K te) := ⟨fun pins s σ H Q I h => by
  refine Subscript_ (thn (he.run pins s σ H _ I h) fun v s1 ⟨x, H1, I1, rx, a, xs, ex, hx, q⟩ => ?_)
  subst ex
  cases rx
  have step : PO X (some (.UnaryOp .USub (.Constant (.int 1) k p1) p2)) (tPart (tUn (rU fun i => .int (-i)) (tC (.int 1)))) := po_some (pe_un un_neg pe_int)
  have at1 := po_none.run pins s1 σ H1 (fun o H2 => o = none ∧ H2 = H1) I1 ⟨rfl, rfl⟩
  refine wpAny_Slice (thn at1 fun vl s2 ⟨l, H2, I2, pl, el, eh⟩ => ?_)
  subst el eh
  have at2 := po_none.run pins s2 σ H2 (fun o H3 => o = none ∧ H3 = H2) I2 ⟨rfl, rfl⟩
  refine thn at2 fun vu s3 ⟨u, H3, I3, pu, eu, eh⟩ => ?_
  subst eu eh
  have at3 := step.run pins s3 σ H3 (fun o H4 => o = some (-1) ∧ H4 = H3) I3 ⟨1, rfl, -1, rfl, rfl, rfl⟩
  refine thn at3 fun vs s4 ⟨o, H4, I4, ps, eo, eh⟩ => ?_
  subst eo eh
  cases pl
  cases pu
  generalize hs5 : ({ s4 with heap := s4.heap.push { cls := .type "slice", data := .fields #[.none, .none, vs] } } : Shared) = s5
  have I5 : Inv X pins σ H4 s5 := by
    rw [← hs5]
    exact I4.kept (t' := s4.toks) fun b ob q => Heap.get?_push_of_some _ q
  obtain ⟨its, r, ht, hz⟩ := I5.tuple hx
  have hl := r.length
  have hsl : s5.heap.IsSliceOf s4.heap.objs.size .none .none vs := by
    rw [← hs5]
    exact Heap.IsSliceOf.new _ _ _ vs
  show wpAny (model X.prog X.w) X.A (subscriptTail e _ (.ref a) (.ref s4.heap.objs.size)) (EP X pins σ Q) X.xe s5
  refine tail_any (ops := [.ref a, .ref s4.heap.objs.size]) ht.typeIs PyProof.Rows.slot_tuple_getitem.lookup ?_ (by with_unfolding_all rfl)
  refine tup_back ht hsl ps ?_ (by rw [List.size_toArray]; omega)
  have laid := I5.laid (a := s5.heap.objs.size) (h' := s5.heap.push { cls := .type "tuple", data := .seq its.toArray.toList.reverse.toArray }) (t' := s5.toks) (o := .tup xs.reverse) (fun b ob q => Heap.get?_push_of_some _ q) (Nat.le_refl _)
    ⟨by rw [List.length_reverse]; exact hz, its.reverse, r.reverse, IsTup.new _ _⟩
  exact ⟨.ref _, _, laid, rfl, q _ (I5.hok.fresh (Nat.le_refl _))⟩⟩
/-- a part behind a star -/
def tStarA (K : PySem.W.Frag) (te : TE) (t : TA) : TA := fun σ H Q => te σ H fun x H1 => ∃ a xs, x = .ref a ∧ (SqT K H1 a xs ∨ SqL K H1 a xs) ∧ t σ H1 fun ys H2 => Q (xs ++ ys) H2
theorem star_lst {pins : List (Addr × Obj)} {σ : L2.St} {H : Hp} {s : Shared} {a : Addr} {xs : List V} {E : Value → Shared → Prop} {Q : List Value → Shared → Prop} (I : Inv X pins σ H s) (h : SqL X.K H a xs) (hQ : ∀ us s', Inv X pins σ H s' → Vals xs us → Q us s') :
    PySem.W.StarOf (model X.prog X.w) X.A E (.ref a) Q s := by
  obtain ⟨its, r, pl, hz⟩ := I.list h
  obtain ⟨o, n, h1, h2, _, h4⟩ := id pl
  have hl := r.length
  have hT := pl.isList.typeIs
  have c : wpAny (model X.prog X.w) X.A (collect (.ref a)) Q E s := wpAny_collect_seq a (.inl rfl) h1 h2 h4 (fun h' hk => hQ its _ (I.kept (t' := s.toks) hk) r) (by rw [List.size_toArray]; omega)
  unfold PySem.W.StarOf notIterableAtAll
  exact wpAny_bind (wpAny_specialOf hT PySem.slot_list_iter.lookup (wpAny_pure ⟨rfl, c⟩))
theorem pa_starA {e : Expr} {es : List Expr} {te : TE} {t : TA} {p : Pos} (he : PE X e te) (ha : PA X es t) : PA X (.Starred e p :: es) (tStarA X.K te t) := ⟨fun pos pins s σ H Q I h => by
  show wpAny (model X.prog X.w) X.A (spliced ((true, (do let v ← eval e X.env; standAt pos; pure v)) :: backTo pos (starEach es X.env))) (AP X pins σ Q) X.xe s
  refine PySem.W.ks_spliced (thn (he.run pins s σ H _ I h) fun v s1 ⟨x, H1, I1, rx, a, xs, ex, hx, q⟩ => ?_)
  subst ex
  cases rx
  have go : ∀ (us : List Value) (s2 : Shared), Inv X pins σ H1 s2 → Vals xs us → wpAny (model X.prog X.w) X.A (spliced (backTo pos (starEach es X.env))) (fun ws s3 => AP X pins σ Q (us ++ ws) s3) X.xe s2 := fun us s2 I2 r =>
    thn (ha.run pos pins s2 σ H1 _ I2 q) fun ws s3 ⟨ys, H3, I3, rw, q3⟩ => ⟨xs ++ ys, H3, I3, r.append rw, q3⟩
  rcases hx with hx | hx
  · exact star_tup I1 hx go
  · exact star_lst I1 hx go⟩
end
/-! ### sound -/
section
variable {U : Wd} {K : PySem.W.Frag} {k : Nat} {c : Cc} {X : Cx} {W : WX}
def TSpk (U : Wd) (K : PySem.W.Frag) (k : Nat) (W : WX) (js : List PI.E) (st : List Bool) (t : TA) : Prop := ∀ (B : Fx) (ρ : Rho) (σ : L2.St) (F H : Hp) (Q : List V → Hp → Prop), Rel K B ρ σ F H →
  Po (evSp (U.gm k) js st ρ) (fun p => ∀ vs F' H', Rel K B p.2 σ F' H' → Same F F' → RpL K F' p.1 vs → Q vs H') (erE U K B σ W) → t σ H Q
def SSp (U : Wd) (k : Nat) (c : Cc) (es : List Expr) (js : List PI.E) (st : List Bool) : Prop := ∀ (X : Cx) (W : WX), XOk U k c X → Takes X W → ∃ t, PA X es t ∧ TSpk U X.K k W js st t
theorem ssp_nil {st : List Bool} : SSp U k c [] [] st := fun X W ok tk => ⟨_, pa_nil, fun B ρ σ F H Q rel h => by
  rw [evSp] at h
  exact h [] F H rel (Same.refl F) rfl⟩
theorem ssp_one {e : Expr} {es : List Expr} {j : PI.E} {js : List PI.E} {st : List Bool} (hs : noStar e = true) (se : SE U k c e j) (sp : SSp U k c es js st) : SSp U k c (e :: es) (j :: js) (false :: st) := fun X W ok tk => by
  obtain ⟨te, pe, he⟩ := se X W ok tk
  obtain ⟨ta, pa, ha⟩ := sp X W ok tk
  refine ⟨_, pa_cons pe pa (star_of hs es X.env), fun B ρ σ F H Q rel h => ?_⟩
  rw [evSp] at h
  simp only [List.headD_cons, Bool.false_eq_true, if_false, List.tail_cons] at h
  refine one he rel h fun r ρ1 v F1 H1 rel1 s1 rs1 h1 => ?_
  obtain ⟨⟨d, ρ2⟩, e1, h2⟩ := Po.ofO' h1
  obtain ⟨F2, s2, rel2, rp2⟩ := rs1.give rel1 e1
  refine ha B _ σ F2 H1 _ rel2 (Po.mono (Po.bind h2) (fun q hq vs F' H' rel' sm rl => ?_) fun _ _ _ e => e)
  exact hq (v :: vs) F' H' rel' ((s1.trans s2).trans sm) ⟨v, vs, rfl, Rp.mono sm rp2, rl⟩
theorem ssp_star {e : Expr} {es : List Expr} {j : PI.E} {js : List PI.E} {st : List Bool} {p : Pos} (se : SE U k c e j) (sp : SSp U k c es js st) : SSp U k c (.Starred e p :: es) (j :: js) (true :: st) := fun X W ok tk => by
  obtain ⟨te, pe, he⟩ := se X W ok tk
  obtain ⟨ta, pa, ha⟩ := sp X W ok tk
  refine ⟨_, pa_starA pe pa, fun B ρ σ F H Q rel h => ?_⟩
  rw [evSp] at h
  simp only [List.headD_cons, if_true, List.tail_cons] at h
  refine one he rel h fun r ρ1 v F1 H1 rel1 s1 rs1 h1 => ?_
  obtain ⟨x, e1, h2⟩ := Po.ofO' h1
  obtain ⟨l, e2, h3⟩ := Po.ofO' h2
  have rq := rs1.read (Same.refl F1) rel1 e1
  have fin : ∀ vs, RpL X.K F1 l vs → ta σ H1 fun ys H2 => Q (vs ++ ys) H2 := fun vs g => by
    refine ha B _ σ F1 H1 _ rel1 (Po.mono (Po.bind h3) (fun q hq ws F' H' rel' sm rl => ?_) fun _ _ _ e => e)
    exact hq (vs ++ ws) F' H' rel' (s1.trans sm) (RpL.append (RpL.mono sm g) rl)
  cases x with
  | lst l' =>
    cases e2
    obtain ⟨a, vs, rfl, g1, g2⟩ := rq
    exact ⟨a, vs, rfl, .inr (SqL.of g1), fin vs g2⟩
  | tup l' =>
    cases e2
    obtain ⟨a, vs, rfl, g1, g2⟩ := rq
    exact ⟨a, vs, rfl, .inl (Same.tupT rel1.sub g1), fin vs g2⟩
  | _ => cases e2
theorem s_splT {es : List Expr} {js : List PI.E} {st : List Bool} {n : Nat} {p : Pos} (sa : SSp U k c es js st) : SE U k c (.Tuple es n p) (.spl true js st) := by
  intro X W ok tk
  obtain ⟨ta, pa, ha⟩ := sa X W ok tk
  refine ⟨_, pe_tup pa, fun B ρ σ F H Q rel h => ?_⟩
  rw [ev] at h
  refine ha B ρ σ F H _ rel (Po.mono (Po.bind h) (fun q hq vs F' H' rel' sm rl => ?_) fun _ _ _ e => e)
  by_cases z : q.1.length ≤ sizeLine
  · simp only [z, if_true] at hq
    refine ⟨by rw [← rl.length]; exact z, fun p hp => ?_⟩
    have hf := rel'.newF hp
    exact hq _ _ _ (rel'.put hp) (sm.trans (same_upd hf)) ⟨p, vs, rfl, upd_same, RpL.mono (same_upd hf) rl⟩
  · simp only [z, if_false] at hq
    exact hq.elim
theorem s_splL {es : List Expr} {js : List PI.E} {st : List Bool} {p : Pos} (sa : SSp U k c es js st) : SE U k c (.List es p) (.spl false js st) := by
  intro X W ok tk
  obtain ⟨ta, pa, ha⟩ := sa X W ok tk
  refine ⟨_, pe_lst pa, fun B ρ σ F H Q rel h => ?_⟩
  rw [ev] at h
  refine ha B ρ σ F H _ rel (Po.mono (Po.bind h) (fun q hq vs F' H' rel' sm rl => ?_) fun _ _ _ e => e)
  by_cases z : q.1.length ≤ sizeLine
  · simp only [z, Bool.false_eq_true, if_true, if_false] at hq
    refine ⟨by rw [← rl.length]; exact z, fun p hp => ?_⟩
    exact hq _ _ _ (rel'.lay hp) sm (Rs.ofL ⟨p, _, _, rfl, rfl, upd_same, rel'.newF hp, rel'.new0 hp, rl, rel'.notOwn hp⟩)
  · simp only [z, if_false] at hq
    exact hq.elim
theorem s_rev {a : Expr} {a' : PI.E} {n : Nat} {p1 p2 p3 pos : Pos} (sa : SE U k c a a') : SE U k c (.Subscript a (.Slice none none (some (.UnaryOp .USub (.Constant (.int 1) n p1) p2)) p3) pos) (.rev a') := by
  intro X W ok tk
  obtain ⟨ta, pa, ha⟩ := sa X W ok tk
  refine ⟨_, PE.or (pe_revL pa) (pe_revT pa), fun B ρ σ F H Q rel h => ?_⟩
  rw [ev] at h
  cases he : ev (U.gm k) a' ρ with
  | bad => rw [he] at h; exact h.elim
  | err cc pl r =>
    rw [he] at h
    left
    exact ha B ρ σ F H _ rel (by rw [he]; exact h)
  | ok q =>
    rw [he] at h
    obtain ⟨x, e1, h2⟩ := Po.ofO' h
    obtain ⟨z, e2, h3⟩ := Po.ofO' h2
    cases x with
    | lst l =>
      cases e2
      left
      refine ha B ρ σ F H _ rel (by
        rw [he]
        intro v F1 H1 rel1 s1 rs1
        obtain ⟨F2, s2, rel2, rs2⟩ := rs1.settle rel1
        obtain ⟨p, vs, rfl, g1, g2⟩ := rs2.read (Same.refl F2) rel2 e1
        refine ⟨p, vs, rfl, SqL.of g1, fun r hr => ?_⟩
        exact h3 _ F2 _ (rel2.lay hr) (s1.trans s2) (Rs.ofL ⟨r, _, _, rfl, rfl, upd_same, rel2.newF hr, rel2.new0 hr, g2.reverse, rel2.notOwn hr⟩))
    | tup l =>
      cases e2
      right
      refine ha B ρ σ F H _ rel (by
        rw [he]
        intro v F1 H1 rel1 s1 rs1
        obtain ⟨F2, s2, rel2, rs2⟩ := rs1.settle rel1
        obtain ⟨p, vs, rfl, g1, g2⟩ := rs2.read (Same.refl F2) rel2 e1
        refine ⟨p, vs, rfl, Same.tupT rel2.sub g1, fun r hr => ?_⟩
        have hf := rel2.newF hr
        exact h3 _ _ _ (rel2.put hr) ((s1.trans s2).trans (same_upd hf)) ⟨r, _, rfl, upd_same, RpL.mono (same_upd hf) g2.reverse⟩)
    | _ => cases e2
theorem s_dnew {pos : Pos} : SE U k c (.Dict [] [] pos) .dnew := by
  intro X W ok tk
  refine ⟨_, pe_dnewK, fun B ρ σ F H Q rel h => ?_⟩
  rw [ev] at h
  intro p hp
  exact h _ F _ (rel.lay hp) (Same.refl F) ⟨p, _, ⟨[], ⟨rfl, [], rfl, rfl⟩, rfl⟩, rfl, upd_same, rel.newF hp, rel.new0 hp, rel.notOwn hp⟩
end
end PI
/-! Dict comprehensions. -/
namespace PI
open PySem L2
section
variable {U : Wd} {K : PySem.W.Frag} {k : Nat} {c : Cc} {X : Cx} {W : WX}
def turnFD (Γ : Gm) (kx vx : PI.E) (g : G) (co : Option PI.E) (vs : List Nat) (x : D) (ρ : Rho) : Out (Option (D × D) × Rho) := do
  let ρ ← ofO (bindG g x ρ)
  let (b, ρ) ← evC Γ co ρ
  if b then
    let (r, ρ) ← ev Γ kx ρ
    let (y, ρ) ← ofO (give ρ r)
    let (r, ρ) ← ev Γ vx ρ
    let (z, ρ) ← ofO (give ρ r)
    pure (some (y, z), wipeR ρ vs)
  else pure (none, wipeR ρ vs)
theorem ev_dcomp (Γ : Gm) (kx vx : PI.E) (g : G) (it : I) (co : Option PI.E) (vs : List Nat) (ρ : Rho) : ev Γ (.dcomp kx vx g it co vs) ρ = (evI Γ it ρ >>= fun q =>
    if noOwn q.2.2 vs then noErr (dictF (turnFD Γ kx vx g co vs) q.1 (wipeR q.2.2 vs) false [] []) >>= fun p => ofO (unlends q.2.1 (backR q.2.2 p.2 vs)) >>= fun ρ2 => pure (.fre (.dic p.1.1 p.1.2.1 p.1.2.2), ρ2)
    else .bad) := by
  rw [ev]
  cases co <;> rfl
theorem turnD_ok {Γ : Gm} {kx vx : PI.E} {g : G} {co : Option PI.E} {vs : List Nat} {x : D} {ρ ρ' : Rho} {y : Option (D × D)} (h : turnFD Γ kx vx g co vs x ρ = .ok (y, ρ')) :
    ∃ ρa b ρb, bindG g x ρ = some ρa ∧ evC Γ co ρa = .ok (b, ρb) ∧ ((b = false ∧ y = none ∧ ρ' = wipeR ρb vs) ∨
      (b = true ∧ ∃ r ρc z ρd q ρe w ρf, ev Γ kx ρb = .ok (r, ρc) ∧ give ρc r = some (z, ρd) ∧ ev Γ vx ρd = .ok (q, ρe) ∧ give ρe q = some (w, ρf) ∧ y = some (z, w) ∧ ρ' = wipeR ρf vs)) := by
  unfold turnFD at h
  cases e1 : bindG g x ρ with
  | none => simp [e1] at h
  | some ρa =>
    cases e2 : evC Γ co ρa with
    | err c pl r => simp [e1, e2] at h
    | bad => simp [e1, e2] at h
    | ok p =>
      obtain ⟨b, ρb⟩ := p
      refine ⟨ρa, b, ρb, rfl, e2, ?_⟩
      cases b with
      | false =>
        simp [e1, e2] at h
        exact .inl ⟨rfl, h.1.symm, h.2.symm⟩
      | true =>
        cases e3 : ev Γ kx ρb with
        | err c pl r => simp [e1, e2, e3] at h
        | bad => simp [e1, e2, e3] at h
        | ok q =>
          obtain ⟨r, ρc⟩ := q
          cases e4 : give ρc r with
          | none => simp [e1, e2, e3, e4] at h
          | some z =>
            cases e5 : ev Γ vx z.2 with
            | err c pl r => simp [e1, e2, e3, e4, e5] at h
            | bad => simp [e1, e2, e3, e4, e5] at h
            | ok q2 =>
              obtain ⟨r2, ρe⟩ := q2
              cases e6 : give ρe r2 with
              | none => simp [e1, e2, e3, e4, e5, e6] at h
              | some w =>
                simp [e1, e2, e3, e4, e5, e6] at h
                exact .inr ⟨rfl, r, ρc, z.1, z.2, r2, ρe, w.1, w.2, rfl, e4, e5, e6, h.1.symm, h.2.symm⟩
theorem dictF_cons {f : D → Rho → Out (Option (D × D) × Rho)} {x : D} {xs : List D} {ρ : Rho} {t : Bool} {ks vs : List D} {q : (Bool × List D × List D) × Rho} (h : dictF f (x :: xs) ρ t ks vs = .ok q) : ∃ y ρ', f x ρ = .ok (y, ρ') ∧
    ((y = none ∧ dictF f xs ρ' t ks vs = .ok q) ∨ ∃ a b, y = some (a, b) ∧ keyOk (kindK t ks a) a = true ∧ ks.length < sizeLine ∧ dictF f xs ρ' (kindK t ks a) (putD a b ks vs).1 (putD a b ks vs).2 = .ok q) := by
  rw [dictF] at h
  cases e1 : f x ρ with
  | err c pl r => simp [e1] at h
  | bad => simp [e1] at h
  | ok p =>
    obtain ⟨y, ρ'⟩ := p
    refine ⟨y, ρ', rfl, ?_⟩
    cases y with
    | none => exact .inl ⟨rfl, by simpa [e1] using h⟩
    | some ab =>
      obtain ⟨a, b⟩ := ab
      simp only [e1, bind_ok] at h
      by_cases z : keyOk (kindK t ks a) a = true ∧ ks.length < sizeLine
      · rw [if_pos z] at h
        exact .inr ⟨a, b, rfl, z.1, z.2, h⟩
      · rw [if_neg z] at h
        cases h
theorem dc_ok {it : I} {g : G} {co : Option PI.E} {kx vx : PI.E} {vs : List Nat} {wi : TI} {tt : TT} {tk tv : TE} (hi : TIok U K k W it wi) (ht : TCok U K k co tt) (hk : TEok U K k W0 kx tk) (hv : TEok U K k W0 vx tv) (hg : g.sub vs = true) : TEok U K k W (.dcomp kx vx g it co vs) (tDcG wi (tG K g) tt tk tv vs) := by
  intro B ρ σ F H Q rel h
  rw [ev_dcomp] at h
  refine hi B ρ σ F H _ rel (Po.mono (Po.bind h) (fun q hq => ?_) fun _ _ _ e => e)
  obtain ⟨l, rs, ρ1⟩ := q
  intro B' J F1 H1 rel1 s1 wk bk D hD
  simp only at hq
  by_cases hn : noOwn ρ1 vs = true
  case neg =>
    rw [if_neg hn] at hq
    exact hq.elim
  rw [if_pos hn] at hq
  cases e : dictF (turnFD (U.gm k) kx vx g co vs) l (wipeR ρ1 vs) false [] [] with
  | err cc pl r =>
    rw [e] at hq
    exact hq.elim
  | bad =>
    rw [e] at hq
    exact hq.elim
  | ok p =>
  rw [e] at hq
  obtain ⟨ρ3, e3, hq⟩ := Po.ofO' (show Po (ofO (unlends rs (backR ρ1 p.2 vs)) >>= fun ρ2 => pure (R.fre (.dic p.1.1 p.1.2.1 p.1.2.2), ρ2)) (okE K B σ F Q) (erE U K B σ W) from hq)
  have fD := rel1.newF hD
  have h0 := rel1.new0 hD
  have fr : Fre B' D := rel1.fre h0 fD
  have off1 : Off ρ1 σ D := rel1.notOwn hD
  let Inv : Nat → Hp → Prop := fun i H2 => ∃ ρ2 F2 t ks ds us o, Rel K (B'.hold D o) ρ2 (wipe σ vs) F2 H2 ∧ Same F1 F2 ∧ DkO t ks us o ∧ RpL K F2 ds us ∧ dictF (turnFD (U.gm k) kx vx g co vs) (l.drop i) ρ2 t ks ds = .ok p
  have init : Inv 0 (upd H1 D (.dK [])) := by
    have r2 := (rel1.lay (o := .dK []) hD).wipe vs
    have off2 : Off (wipeR ρ1 vs) (wipe σ vs) D := fun i m d q => by
      obtain ⟨e1, e2⟩ := wipeR_some q (by simp)
      rw [wipe_out e2]
      exact off1 i m d e1
    exact ⟨wipeR ρ1 vs, F1, false, [], [], [], _, r2.hold fr upd_same fD off2, Same.refl F1, ⟨rfl, [], rfl, rfl⟩, rfl, e⟩
  refine ⟨fun i m H2 => m = l.length - i ∧ i ≤ l.length ∧ Inv i H2, ⟨l.length, by simp, Nat.zero_le _, init⟩, ?_⟩
  rintro i m H2 ⟨rfl, hi', ρ2, F2, t, ks, ds, us, o, r2, s2, dk, rp, em⟩
  obtain ⟨stop, walk⟩ := wk _ (wid_hold fr) ρ2 _ F2 H2 r2 s2
  by_cases hlt : i < l.length
  · obtain ⟨go, yl⟩ := walk i l[i] (List.getElem?_eq_getElem hlt)
    refine .inr ⟨go, Inv (i + 1), fun H' inv => ⟨l.length - (i + 1), by omega, rfl, hlt, inv⟩, fun x H3 y => ?_⟩
    obtain ⟨F3, s3, r3, rx⟩ := yl x H3 y
    rw [List.drop_eq_getElem_cons hlt] at em
    obtain ⟨yo, ρ', m1, m2⟩ := dictF_cons em
    obtain ⟨ρa, b, ρb, b1, b2, b3⟩ := turnD_ok m1
    refine tG_ok r3 rx b1 fun σ2 r4 hw => ⟨(hw vs hg).trans (wipe_twice σ vs), ht _ ρa ρb b σ2 F3 H3 _ r4 b2 fun F4 H4 r5 s4 => ?_⟩
    have hw2 : wipe σ2 vs = wipe σ vs := (hw vs hg).trans (wipe_twice σ vs)
    rcases b3 with ⟨rfl, rfl, rfl⟩ | ⟨rfl, r, ρc, z, ρd, q2, ρe, w, ρf, c1, c2, c3, c4, rfl, rfl⟩
    · rw [if_neg (by simp)]
      rcases m2 with ⟨_, m2⟩ | ⟨a, b, e', _⟩
      · have r6 := r5.wipe vs
        rw [hw2] at r6
        exact ⟨_, F4, t, ks, ds, us, o, r6, (s2.trans s3).trans s4, dk, RpL.mono (s3.trans s4) rp, m2⟩
      · cases e'
    · rw [if_pos rfl]
      rcases m2 with ⟨e', _⟩ | ⟨a, b, e', hkey, hlen, m2⟩
      · cases e'
      cases e'
      refine hk _ ρb σ2 F4 H4 _ r5 ?_
      rw [c1]
      intro v F5 H5 r6 s5 rs5
      obtain ⟨F6, s6, r7, rs6⟩ := rs5.settle r6
      obtain ⟨F7, s7, r8, rz⟩ := rs6.give r7 c2
      refine hv _ ρd σ2 F7 H5 _ r8 ?_
      rw [c3]
      intro v2 F8 H6 r9 s8 rs8
      obtain ⟨F9, s9, r10, rs9⟩ := rs8.settle r9
      obtain ⟨F10, s10, r11, rw'⟩ := rs9.give r10 c4
      obtain ⟨_, hD5, _, _⟩ := r11.unhold fr
      have s710 : Same F7 F10 := (s8.trans s9).trans s10
      have sall : Same F2 F10 := ((((s3.trans s4).trans s5).trans s6).trans s7).trans s710
      obtain ⟨o', us', g1, g2, g3⟩ := st_of r11.sub hD5 dk (RpL.mono sall rp) hkey hlen (Rq.of r11.sub (Rp.mono s710 rz)) rw'
      have r12 := r11.wipe vs
      rw [hw2] at r12
      exact ⟨_, g1, _, F10, _, _, _, us', o', r12.rehold fr g2.nt, s2.trans sall, g2, g3, m2⟩
  · have ei : i = l.length := by omega
    subst ei
    refine .inl ⟨stop, ?_⟩
    rw [List.drop_length, dictF] at em
    cases em
    obtain ⟨r3, hD3, fD3, off3⟩ := r2.unhold fr
    have r4 := r3.backR rel1 s2 hn
    have off4 := off3.backR hn
    have r5 := bk.rel _ _ _ _ _ r4 e3
    have off5 := bk.off D h0 _ _ _ _ _ r4 e3 off4
    exact hq _ F2 H2 r5 (s1.trans s2) ⟨D, o, ⟨us, dk, rp⟩, rfl, hD3, fD3, bk.wid.free h0, off5⟩
structure SDc (U : Wd) (k : Nat) (c : Cc) (kx vx tg iter : Expr) (ifs : List Expr) (scope : Scope) (e f : PI.E) (g : G) (it : I) (co : Option PI.E) (own : List (Str × Nat)) : Prop where
  it : SI U k c tg iter it
  set : noSet iter = true
  blk : blkC c.N c.sc scope own = true
  gt : ∃ n, trG (c.blk scope) n tg = some g
  sub : g.sub (own.map (·.2)) = true
  co : SCo U k (c.blk scope) ifs co
  kx : SE U k (c.blk scope) kx e
  vx : SE U k (c.blk scope) vx f
theorem SDc.parts {kx vx tg iter : Expr} {ifs : List Expr} {scope : Scope} {e f : PI.E} {g : G} {it : I} {co : Option PI.E} {own : List (Str × Nat)} (S : SDc U k c kx vx tg iter ifs scope e f g it co own) (ok : XOk U k c X) (tk : Takes X W) :
    BlkOk X.N X.env.scope scope own ∧ ∃ wi tt t1 t2, PI X tg iter wi ∧ (∀ b : Blk, PG (b.cx X scope) tg (tG X.K g)) ∧ (∀ b : Blk, PTs (b.cx X scope) ifs tt) ∧ (∀ b : Blk, PE (b.cx X scope) kx t1) ∧ (∀ b : Blk, PE (b.cx X scope) vx t2) ∧ TEok U X.K k W (.dcomp e f g it co (own.map (·.2))) (tDcG wi (tG X.K g) tt t1 t2 (own.map (·.2))) := by
  have hb : BlkOk c.N c.sc scope own := blkOk_by S.blk
  obtain ⟨n, hg⟩ := S.gt
  obtain ⟨wi, p1, h1⟩ := S.it X W ok tk
  obtain ⟨tt, p2, h2⟩ := pts_uni (Y := fun b : Blk => b.cx X scope) (fun b => S.co _ (blk_ok ok hb b) takes0)
  obtain ⟨t1, p3, h3⟩ := pe_uni (Y := fun b : Blk => b.cx X scope) (V := W0) (fun b => S.kx _ _ (blk_ok ok hb b) takes0)
  obtain ⟨t2, p4, h4⟩ := pe_uni (Y := fun b : Blk => b.cx X scope) (V := W0) (fun b => S.vx _ _ (blk_ok ok hb b) takes0)
  exact ⟨by rw [ok.N, ok.sc]; exact hb, wi, tt, t1, t2, p1, fun b => trG_pg (blk_ok ok hb b) hg, p2, p3, p4, dc_ok h1 h2 h3 h4 S.sub⟩
theorem s_dc {kx vx tg iter : Expr} {ifs : List Expr} {scope : Scope} {e f : PI.E} {g : G} {it : I} {co : Option PI.E} {own : List (Str × Nat)} {pos : Pos} (S : SDc U k c kx vx tg iter ifs scope e f g it co own) :
    SE U k c (.DictComp kx vx [⟨tg, iter, ifs, 0⟩] scope pos) (.dcomp e f g it co (own.map (·.2))) := by
  intro X W ok tk
  obtain ⟨hb, wi, tt, t1, t2, p1, p2, p3, p4, p5, h⟩ := S.parts ok tk
  exact ⟨_, pe_dcG (by have := unitsOk ok; omega) ok.calm ok.nd p1 hb (fun s H C cl fp => p2 ⟨s, H, C, cl, fp⟩) (fun s H C cl fp => p3 ⟨s, H, C, cl, fp⟩) (fun s H C cl fp => p4 ⟨s, H, C, cl, fp⟩) (fun s H C cl fp => p5 ⟨s, H, C, cl, fp⟩) (noSet_ok S.set X.env), h⟩
theorem sw_dcomp {kx vx : Expr} {gs : List Comprehension} {scope : Scope} {p : Pos} {tg : Expr} {l : Nat} {env : Env} : swapsWith (.DictComp kx vx gs scope p) (some tg) l env = pure false ∨ (∃ y py, tg = .Name y py ∧ env.scope.names.lookup y = some .local ∧ swapsWith (.DictComp kx vx gs scope p) (some tg) l env = pure true) := by
  cases tg with
  | Name y py =>
    generalize hb : (env.blockKind == .function && env.kindOf y == some .local && py.line == (Expr.DictComp kx vx gs scope p).pos.line && !(scope.names.any fun (n, k) => n == y && (k == .local || k == .cell))) = z
    have e : swapsWith (.DictComp kx vx gs scope p) (some (.Name y py)) l env = pure z := by
      rw [← hb]
      rfl
    cases z with
    | false => exact .inl e
    | true =>
      refine .inr ⟨y, py, rfl, ?_, e⟩
      simp only [Bool.and_eq_true] at hb
      have h2 := hb.1.1.2
      exact (by simpa using h2 : env.kindOf y = some .local)
  | _ => exact .inl rfl
theorem ss_asgDc {tg : Expr} {g : G} {n : Nat} {pos : Pos} {kx vx tg1 iter : Expr} {ifs : List Expr} {scope : Scope} {e f : PI.E} {g1 : G} {it : I} {co : Option PI.E} {own : List (Str × Nat)} {p : Pos} (hg : trG c n tg = some g) (ho : asgOk tg (.DictComp kx vx [⟨tg1, iter, ifs, 0⟩] scope p) = true)
    (S : SDc U k c kx vx tg1 iter ifs scope e f g1 it co own) : SS U k c (.Assign [tg] (.DictComp kx vx [⟨tg1, iter, ifs, 0⟩] scope p) pos) (.asg g (.dcomp e f g1 it co (own.map (·.2)))) := by
  intro X W ok tk
  have hu : X.A.units + 1 < cLine := by have := unitsOk ok.toXOk; omega
  obtain ⟨hb, wi, tt, t1, t2, p1, p2, p3, p4, p5, h⟩ := S.parts ok.toXOk tk
  refine ⟨_, ?_, ts_asg h⟩
  rcases sw_dcomp (kx := kx) (vx := vx) (gs := [⟨tg1, iter, ifs, 0⟩]) (scope := scope) (p := p) (tg := tg) (l := pos.line) (env := X.env) with hs | ⟨y, py, rfl, hy, hs⟩
  · exact asg_ps ok.toXOk hg ho hs (pe_dcG hu ok.calm ok.nd p1 hb (fun s H C cl fp => p2 ⟨s, H, C, cl, fp⟩) (fun s H C cl fp => p3 ⟨s, H, C, cl, fp⟩) (fun s H C cl fp => p4 ⟨s, H, C, cl, fp⟩) (fun s H C cl fp => p5 ⟨s, H, C, cl, fp⟩) (noSet_ok S.set X.env))
  · cases n with
    | zero => simp [trG] at hg
    | succ n =>
      simp only [trG] at hg
      obtain ⟨i, e1, rfl⟩ := map_some hg
      unfold Cc.lslot at e1
      split at e1
      · exact ps_setDcG hu ok.calm ok.nd (by rw [ok.N]; exact ixIn_get e1) hy hs p1 hb (fun s H C cl fp => p2 ⟨s, H, C, cl, fp⟩) (fun s H C cl fp => p3 ⟨s, H, C, cl, fp⟩) (fun s H C cl fp => p4 ⟨s, H, C, cl, fp⟩) (fun s H C cl fp => p5 ⟨s, H, C, cl, fp⟩) (noSet_ok S.set X.env)
      · cases e1
end
end PI
/-! What the translation makes is sound. -/
namespace PI
open PySem L2
section
variable {U : Wd} {k : Nat}
theorem obind {α β : Type} {x : Option α} {f : α → Option β} {b : β} (h : (x >>= f) = some b) : ∃ a, x = some a ∧ f a = some b := Option.bind_eq_some_iff.mp h
theorem trE_star {c : Cc} {n : Nat} {e : Expr} {i : E} (h : trE c n e = some i) : noStar e = true ∧ noSlice e = true := by
  cases n with
  | zero => simp [trE] at h
  | succ n => cases e <;> first | exact ⟨rfl, rfl⟩ | simp [trE] at h
structure Glue (U : Wd) (k n : Nat) : Prop where
  e : ∀ c e i, trE c n e = some i → SE U k c e i
  t : ∀ c e i m, trE c n e = some i → tstOk m e = true → ST U k c e i
  es : ∀ c es js, trEs c n es = some js → SA U k c es js ∧ SR U k c es js ∧ SP U k c es js ∧ (es = [] → js = [])
  rg : ∀ c es a b, trRg c n es = some (a, b) → isRg c es = true → ∃ e, es = [e] ∧ SG U k c e a b
  bool : ∀ c o vs p i, trBool c n o vs = some i → SE U k c (.BoolOp o vs p) i
  boolw : ∀ c o vs p i m, trBool c n o vs = some i → vs.all (tstOk m) = true → SW U k c (.BoolOp o vs p) i
  op : ∀ c e i, trOp c n e = some i → SO U k c e i
  ifs : ∀ c es i, trIfs c n es = some i → SCo U k c es i
  it : ∀ c e i tg, trI c n e = some i → tupTg e tg = true → SI U k c tg e i
  kvs : ∀ c ks es js, trKvs c n ks es = some js → SKv U k c ks es js
  sp : ∀ c es js st, trSp c n es = some (js, st) → SSp U k c es js st
theorem glue0 : Glue U k 0 where
  e := fun c e i h => by simp [trE] at h
  t := fun c e i m h => by simp [trE] at h
  es := fun c e i h => by simp [trEs] at h
  rg := fun c e i b h => by simp [trRg] at h
  bool := fun c o vs p i h => by simp [trBool] at h
  boolw := fun c o vs p i m h => by simp [trBool] at h
  op := fun c e i h => by simp [trOp] at h
  ifs := fun c e i h => by simp [trIfs] at h
  it := fun c e i tg h => by simp [trI] at h
  kvs := fun c ks es js h => by simp [trKvs] at h
  sp := fun c es js st h => by simp [trSp] at h
theorem gl_sp {n : Nat} (G : Glue U k n) (c : Cc) (es : List Expr) (js : List E) (st : List Bool) (h : trSp c (n + 1) es = some (js, st)) : SSp U k c es js st := by
  cases es with
  | nil =>
    simp [trSp] at h
    obtain ⟨rfl, rfl⟩ := h
    exact ssp_nil
  | cons e es =>
    have dflt : isStar e = false → (do let e ← trE c n e; let p ← trSp c n es; pure (e :: p.1, false :: p.2)) = some (js, st) → SSp U k c (e :: es) js st := fun hs h => by
      obtain ⟨i, h1, h⟩ := obind h
      obtain ⟨⟨js', st'⟩, h2, h⟩ := obind h
      have h' : some (i :: js', false :: st') = some (js, st) := h
      cases h'
      exact ssp_one (trE_star h1).1 (G.e c e i h1) (G.sp c es js' st' h2)
    cases e with
    | Starred e p =>
      simp only [trSp] at h
      obtain ⟨i, h1, h⟩ := obind h
      obtain ⟨⟨js', st'⟩, h2, h⟩ := obind h
      have h' : some (i :: js', true :: st') = some (js, st) := h
      cases h'
      exact ssp_star (G.e c e i h1) (G.sp c es js' st' h2)
    | _ => exact dflt rfl (by simpa only [trSp] using h)
theorem gl_kvs {n : Nat} (G : Glue U k n) (c : Cc) (ks : List (Option Expr)) (es : List Expr) (js : List E) (h : trKvs c (n + 1) ks es = some js) : SKv U k c ks es js := by
  match ks, es, h with
  | [], [], h =>
    simp [trKvs] at h
    subst h
    exact skv_nil
  | some a :: ks, b :: es, h =>
    simp only [trKvs] at h
    obtain ⟨i, h1, h⟩ := obind h
    obtain ⟨j, h2, h⟩ := obind h
    obtain ⟨r, h3, h⟩ := obind h
    have h' : some (i :: j :: r) = some js := h
    cases h'
    exact skv_cons (G.e c a i h1) (G.e c b j h2) (G.kvs c ks es r h3)
  | none :: ks, es, h => simp [trKvs] at h
  | [], b :: es, h => simp [trKvs] at h
  | some a :: ks, [], h => simp [trKvs] at h
theorem gl_es {n : Nat} (G : Glue U k n) (c : Cc) (es : List Expr) (js : List E) (h : trEs c (n + 1) es = some js) : SA U k c es js ∧ SR U k c es js ∧ SP U k c es js ∧ (es = [] → js = []) := by
  cases es with
  | nil =>
    simp [trEs] at h
    subst h
    exact ⟨sa_nil, sr_nil, sp_nil, fun _ => rfl⟩
  | cons e es =>
    rw [trEs] at h
    obtain ⟨j, h1, h⟩ := obind h
    obtain ⟨js', h2, h⟩ := obind h
    have h' : some (j :: js') = some js := h
    cases h'
    obtain ⟨g1, g2, g3, g4⟩ := G.es c es js' h2
    have ge := G.e c e j h1
    have hs := (trE_star h1).1
    exact ⟨sa_cons hs ge g1, sr_cons hs ge g2, sp_cons hs ge g3, fun z => by cases z⟩
theorem isRg_eq {c : Cc} {es : List Expr} (h : isRg c es = true) : ∃ p args pos, es = [.Call (.Name "range" p) args [] pos] ∧ c.blt "range" = true := by
  unfold isRg at h
  split at h
  · rename_i f p args pos
    rw [Bool.and_eq_true, decide_eq_true_eq] at h
    obtain ⟨h1, h2⟩ := h
    subst h1
    exact ⟨p, args, pos, rfl, h2⟩
  · cases h
theorem gl_rg {n : Nat} (G : Glue U k n) (c : Cc) (es : List Expr) (a b : E) (h : trRg c (n + 1) es = some (a, b)) (hr : isRg c es = true) : ∃ e, es = [e] ∧ SG U k c e a b := by
  obtain ⟨p, args, pos, rfl, hb⟩ := isRg_eq hr
  refine ⟨_, rfl, ?_⟩
  match args, h with
  | [], h => simp [trRg] at h
  | [x], h =>
    simp only [trRg] at h
    obtain ⟨i, h1, h2⟩ := map_some h
    cases h2
    exact sg_1 hb (trE_star h1).1 (G.e c x _ h1)
  | [x, y], h =>
    simp only [trRg] at h
    obtain ⟨i, h1, h⟩ := obind h
    obtain ⟨j, h2, h⟩ := obind h
    have h' : some (i, j) = some (a, b) := h
    cases h'
    exact sg_2 hb (trE_star h1).1 (trE_star h2).1 (G.e c x _ h1) (G.e c y _ h2)
  | x :: y :: z :: r, h => simp [trRg] at h
theorem gl_bool {n : Nat} (G : Glue U k n) (c : Cc) (o : BoolOp) (vs : List Expr) (p : Pos) (i : E) (h : trBool c (n + 1) o vs = some i) : SE U k c (.BoolOp o vs p) i := by
  match vs, h with
  | [], h => cases o <;> simp [trBool] at h
  | [a], h =>
    have h' : trE c n a = some i := by cases o <;> simpa [trBool] using h
    exact s_bool1 (G.e c a i h')
  | a :: d :: r, h =>
    cases o with
    | And =>
      rw [trBool] at h
      · obtain ⟨x, h1, h⟩ := obind h
        obtain ⟨y, h2, h⟩ := obind h
        have h' : some (E.and x y) = some i := h
        cases h'
        exact s_and (G.e c a x h1) (G.bool c .And (d :: r) p y h2)
      · simp
    | Or =>
      rw [trBool] at h
      · obtain ⟨x, h1, h⟩ := obind h
        obtain ⟨y, h2, h⟩ := obind h
        have h' : some (E.or x y) = some i := h
        cases h'
        exact s_or (G.e c a x h1) (G.bool c .Or (d :: r) p y h2)
      · simp
theorem gl_boolw {n : Nat} (G : Glue U k n) (c : Cc) (o : BoolOp) (vs : List Expr) (p : Pos) (i : E) (m : Nat) (h : trBool c (n + 1) o vs = some i) (hm : vs.all (tstOk m) = true) : SW U k c (.BoolOp o vs p) i := by
  match vs, h, hm with
  | [], h, _ => cases o <;> simp [trBool] at h
  | [a], h, hm =>
    have h' : trE c n a = some i := by cases o <;> simpa [trBool] using h
    rw [List.all_cons, Bool.and_eq_true] at hm
    exact w_one (G.t c a i m h' hm.1)
  | a :: d :: r, h, hm =>
    rw [List.all_cons, Bool.and_eq_true] at hm
    cases o with
    | And =>
      rw [trBool] at h
      · obtain ⟨x, h1, h⟩ := obind h
        obtain ⟨y, h2, h⟩ := obind h
        have h' : some (E.and x y) = some i := h
        cases h'
        exact w_and (G.t c a x m h1 hm.1) (G.boolw c .And (d :: r) p y m h2 hm.2)
      · simp
    | Or =>
      rw [trBool] at h
      · obtain ⟨x, h1, h⟩ := obind h
        obtain ⟨y, h2, h⟩ := obind h
        have h' : some (E.or x y) = some i := h
        cases h'
        exact w_or (G.t c a x m h1 hm.1) (G.boolw c .Or (d :: r) p y m h2 hm.2)
      · simp
theorem gl_ifs {n : Nat} (G : Glue U k n) (c : Cc) (es : List Expr) (i : Option E) (h : trIfs c (n + 1) es = some i) : SCo U k c es i := by
  match es, h with
  | [], h =>
    simp [trIfs] at h
    subst h
    exact sco_nil
  | [e], h =>
    simp only [trIfs] at h
    split at h
    · rename_i ht
      obtain ⟨j, h1, rfl⟩ := map_some h
      exact sco_one (G.t c e j n h1 ht)
    · cases h
  | a :: b :: r, h => simp [trIfs] at h
theorem gl_op {n : Nat} (G : Glue U k n) (c : Cc) (e : Option Expr) (i : Option E) (h : trOp c (n + 1) e = some i) : SO U k c e i := by
  cases e with
  | none =>
    simp [trOp] at h
    subst h
    exact so_none
  | some e =>
    simp only [trOp] at h
    obtain ⟨j, h1, rfl⟩ := map_some h
    exact so_some (G.e c e j h1)
theorem tup_of {f : Str} {p pos : Pos} {args : List Expr} {kws : List Keyword} {tg : Expr} (h : tupTg (.Call (.Name f p) args kws pos) tg = true) (hf : f = "enumerate" ∨ f = "zip") : ∃ es n tp, tg = .Tuple es n tp := by
  cases tg with
  | Tuple es n tp => exact ⟨es, n, tp, rfl⟩
  | _ =>
    rcases hf with rfl | rfl <;> simp [tupTg] at h
theorem gl_it {n : Nat} (G : Glue U k n) (c : Cc) (e : Expr) (i : I) (tg : Expr) (h : trI c (n + 1) e = some i) (ht : tupTg e tg = true) : SI U k c tg e i := by
  have dflt : (trE c n e).map I.seq = some i → SI U k c tg e i := fun h => by
    obtain ⟨j, h1, rfl⟩ := map_some h
    exact si_seq (G.e c e j h1)
  cases e with
  | Call fe args kws pos =>
    cases fe with
    | Name f p =>
      cases kws with
      | cons kw kws => exact dflt (by simpa [trI] using h)
      | nil =>
        simp only [trI] at h
        split at h
        · rename_i hb
          split at h
          · rename_i hf
            subst hf
            match args, h with
            | [], h => simp at h
            | [a], h =>
              obtain ⟨j, h1, rfl⟩ := map_some h
              exact si_rng1 hb (trE_star h1).1 (G.e c a j h1)
            | [a, b], h =>
              obtain ⟨x, h1, h⟩ := obind h
              obtain ⟨y, h2, h⟩ := obind h
              have h' : some (I.rng2 x y) = some i := h
              cases h'
              exact si_rng2 hb (trE_star h1).1 (trE_star h2).1 (G.e c a x h1) (G.e c b y h2)
            | a :: b :: d :: r, h => simp at h
          · split at h
            · rename_i hf
              subst hf
              obtain ⟨es, m, tp, rfl⟩ := tup_of ht (.inl rfl)
              match args, h with
              | [], h => simp at h
              | [a], h =>
                obtain ⟨j, h1, rfl⟩ := map_some h
                exact si_enum hb (trE_star h1).1 (G.e c a j h1)
              | a :: b :: r, h => simp at h
            · split at h
              · rename_i hf
                subst hf
                obtain ⟨es, m, tp, rfl⟩ := tup_of ht (.inr rfl)
                match args, h with
                | [], h => simp at h
                | [a], h => simp at h
                | [a, b], h =>
                  obtain ⟨x, h1, h⟩ := obind h
                  obtain ⟨y, h2, h⟩ := obind h
                  have h' : some (I.zip2 x y) = some i := h
                  cases h'
                  exact si_zip hb (trE_star h1).1 (trE_star h2).1 (G.e c a x h1) (G.e c b y h2)
                | a :: b :: d :: r, h => simp at h
              · exact dflt h
        · exact dflt h
    | _ => exact dflt (by simpa [trI] using h)
  | _ => exact dflt (by simpa [trI] using h)
end
end PI
namespace PI
open PySem L2
section
variable {U : Wd} {k : Nat}
theorem blt_none {c : Cc} {x : Str} (h : c.blt x = true) : c.fn x = none := by
  unfold Cc.blt at h
  unfold Cc.fn
  simp only [Bool.and_eq_true, Option.isNone_iff_eq_none] at h
  rw [if_pos (by simp [h])]
  exact h.1.1.2
theorem gl_lc {n : Nat} (G : Glue U k n) (c : Cc) (elt tg iter : Expr) (ifs : List Expr) (scope : Scope) (pos : Pos) (i : E) (az : Int) (h : trE c (n + 1) (.ListComp elt [⟨tg, iter, ifs, az⟩] scope pos) = some i) :
    az = 0 ∧ ∃ e g it co, i = .comp e g it co ((ownOf c scope).map (·.2)) ∧ SLc U k c elt tg iter ifs scope e g it co (ownOf c scope) := by
  simp only [trE] at h
  split at h
  · rename_i hc
    obtain ⟨hz, hc⟩ := hc
    refine ⟨hz, ?_⟩
    obtain ⟨it, h1, h⟩ := obind h
    obtain ⟨g, h2, h⟩ := obind h
    split at h
    · rename_i hs
      obtain ⟨t, h3, h⟩ := obind h
      obtain ⟨e, h4, h⟩ := obind h
      have h' : some (E.comp e g it t ((ownOf c scope).map (·.2))) = some i := h
      cases h'
      simp only [Bool.and_eq_true] at hc
      exact ⟨e, g, it, t, rfl, G.it c iter it tg h1 hc.2, hc.1.2, hc.1.1, ⟨n, h2⟩, hs, G.ifs (c.blk scope) ifs t h3, G.e (c.blk scope) elt e h4⟩
    · cases h
  · cases h
theorem gl_dc {n : Nat} (G : Glue U k n) (c : Cc) (kx vx tg iter : Expr) (ifs : List Expr) (scope : Scope) (pos : Pos) (i : E) (az : Int) (h : trE c (n + 1) (.DictComp kx vx [⟨tg, iter, ifs, az⟩] scope pos) = some i) :
    az = 0 ∧ ∃ e f g it co, i = .dcomp e f g it co ((ownOf c scope).map (·.2)) ∧ SDc U k c kx vx tg iter ifs scope e f g it co (ownOf c scope) := by
  simp only [trE] at h
  split at h
  · rename_i hc
    obtain ⟨hz, hc⟩ := hc
    refine ⟨hz, ?_⟩
    obtain ⟨it, h1, h⟩ := obind h
    obtain ⟨g, h2, h⟩ := obind h
    split at h
    · rename_i hs
      obtain ⟨t, h3, h⟩ := obind h
      obtain ⟨e, h4, h⟩ := obind h
      obtain ⟨f, h5, h⟩ := obind h
      have h' : some (E.dcomp e f g it t ((ownOf c scope).map (·.2))) = some i := h
      cases h'
      simp only [Bool.and_eq_true] at hc
      exact ⟨e, f, g, it, t, rfl, G.it c iter it tg h1 hc.2, hc.1.2, hc.1.1, ⟨n, h2⟩, hs, G.ifs (c.blk scope) ifs t h3, G.e (c.blk scope) kx e h4, G.e (c.blk scope) vx f h5⟩
    · cases h
  · cases h
theorem gl_call {n : Nat} (G : Glue U k n) (c : Cc) (f : Str) (p pos : Pos) (args : List Expr) (i : E) (h : trE c (n + 1) (.Call (.Name f p) args [] pos) = some i) : SE U k c (.Call (.Name f p) args [] pos) i := by
  simp only [trE] at h
  split at h
  · rename_i j hf
    obtain ⟨js, h1, rfl⟩ := map_some h
    obtain ⟨g1, g2, g3, g4⟩ := G.es c args js h1
    exact s_call hf g1 g4
  · rename_i j hf
    split at h
    · rename_i x px rest
      obtain ⟨y, h1, h⟩ := obind h
      obtain ⟨js, h2, rfl⟩ := map_some h
      obtain ⟨g1, g2, g3, g4⟩ := G.es c rest js h2
      exact s_callio hf h1 g1
    · cases h
  · split at h
    · rename_i hb
      split at h
      · rename_i hf
        obtain ⟨rfl, hr⟩ := hf
        obtain ⟨⟨a, b⟩, h1, rfl⟩ := map_some h
        obtain ⟨e, rfl, sg⟩ := G.rg c args a b h1 hr
        exact s_listRg hb sg
      · split at h
        · rename_i hf
          obtain ⟨rfl, hr⟩ := hf
          obtain ⟨⟨a, b⟩, h1, rfl⟩ := map_some h
          obtain ⟨e, rfl, sg⟩ := G.rg c args a b h1 hr
          exact s_tupRg hb sg
        · split at h
          · rename_i hf
            subst hf
            split at h
            · rename_i a _ _
              obtain ⟨x, h1, rfl⟩ := map_some h
              exact s_rngV1 hb (trE_star h1).1 (G.e c a x h1)
            · rename_i a b _ _
              obtain ⟨x, h1, h⟩ := obind h
              obtain ⟨y, h2, h⟩ := obind h
              have h' : some (E.rngV x y) = some i := h
              cases h'
              exact s_rngV2 hb (trE_star h1).1 (trE_star h2).1 (G.e c a x h1) (G.e c b y h2)
            · cases h
          · split at h
            · rename_i hf
              subst hf
              split at h
              · rename_i a t pt _ _
                split at h
                · rename_i ht
                  obtain ⟨a', h1, h⟩ := obind h
                  obtain ⟨m, h2, h⟩ := obind h
                  have h' : some (E.isa a' m) = some i := h
                  cases h'
                  exact s_isa hb ht h2 (trE_star h1).1 (G.e c a a' h1)
                · cases h
              · cases h
            · obtain ⟨b, h1, h⟩ := obind h
              obtain ⟨js, h2, rfl⟩ := map_some h
              obtain ⟨g1, g2, g3, g4⟩ := G.es c args js h2
              exact s_blt h1 hb g2 g4
    · cases h
theorem gl_meth {n : Nat} (G : Glue U k n) (c : Cc) (o : Expr) (m : Str) (ap pos : Pos) (args : List Expr) (i : E) (h : trE c (n + 1) (.Call (.Attribute o m ap) args [] pos) = some i) : SE U k c (.Call (.Attribute o m ap) args [] pos) i := by
  simp only [trE] at h
  split at h
  · rename_i hc
    rw [Bool.and_eq_true, decide_eq_true_eq] at hc
    split at h
    · rename_i u hu
      split at h
      · rename_i x px
        obtain ⟨y, h1, h⟩ := obind h
        obtain ⟨js, h2, rfl⟩ := map_some h
        obtain ⟨g1, g2, g3, g4⟩ := G.es c args js h2
        exact s_mut hu h1 hc.1 hc.2 g1 g4
      · cases h
    · split at h
      · rename_i hn0
        obtain ⟨b, h1, h⟩ := obind h
        obtain ⟨o', h0, h⟩ := obind h
        obtain ⟨js, h2, rfl⟩ := map_some h
        obtain ⟨g1, g2, g3, g4⟩ := G.es c args js h2
        exact s_mth h1 hn0 hc.1 hc.2 (G.e c o o' h0) g2 g4
      · cases h
  · cases h
theorem gl_menu {n : Nat} (G : Glue U k n) (c : Cc) (fs : List Expr) (lp sp pos : Pos) (ie : Expr) (args : List Expr) (i : E) (h : trE c (n + 1) (.Call (.Subscript (.List fs lp) ie sp) args [] pos) = some i) : SE U k c (.Call (.Subscript (.List fs lp) ie sp) args [] pos) i := by
  simp only [trE] at h
  split at h
  · cases h
  · rename_i hc
    obtain ⟨ks, h1, h⟩ := obind h
    obtain ⟨j, h2, h⟩ := obind h
    obtain ⟨js, h3, rfl⟩ := map_some h
    obtain ⟨g1, g2, g3, g4⟩ := G.es c args js h3
    simp at hc
    cases args with
    | nil => simp at hc
    | cons e es => exact s_menu h1 (by omega) (trE_star h2).2 (G.e c ie j h2) g1
theorem gl_e {n : Nat} (G : Glue U k n) (c : Cc) (e : Expr) (i : E) (h : trE c (n + 1) e = some i) : SE U k c e i := by
  cases e with
  | Name x p =>
    simp only [trE] at h
    split at h
    · rename_i j hs
      cases h
      exact s_var hs
    · split at h
      · rename_i hg
        rw [Bool.and_eq_true] at hg
        obtain ⟨d, h1, rfl⟩ := map_some h
        exact s_glob hg.1 hg.2 h1
      · cases h
  | Constant kc j p =>
    cases kc with
    | none =>
      simp only [trE] at h
      cases h
      exact s_non
    | bool b =>
      simp only [trE] at h
      cases h
      exact s_bl
    | int b =>
      simp only [trE] at h
      cases h
      exact s_int
    | str b =>
      simp only [trE] at h
      cases h
      exact s_str
    | _ => simp [trE] at h
  | BinOp a o b p =>
    simp only [trE] at h
    split at h
    · obtain ⟨x, h1, h⟩ := obind h
      obtain ⟨y, h2, h⟩ := obind h
      have h' : some (E.op o x y) = some i := h
      cases h'
      exact s_op (G.e c a x h1) (G.e c b y h2)
    · cases h
  | UnaryOp o a p =>
    cases o with
    | Not =>
      simp only [trE] at h
      obtain ⟨x, h1, rfl⟩ := map_some h
      exact s_not (G.e c a x h1)
    | _ =>
      simp only [trE] at h
      obtain ⟨x, h1, rfl⟩ := map_some h
      exact s_un (G.e c a x h1)
  | BoolOp o vs p =>
    simp only [trE] at h
    exact G.bool c o vs p i h
  | Compare a os bs p =>
    match os, bs, h with
    | [o], [b], h =>
      simp only [trE] at h
      split at h
      · rename_i hm
        obtain ⟨x, h1, h⟩ := obind h
        obtain ⟨y, h2, h⟩ := obind h
        have h' : some (E.cmp o x y) = some i := h
        cases h'
        exact s_cmp hm (G.e c a x h1) (G.e c b y h2)
      · cases h
    | [o, o'], [b, d], h =>
      simp only [trE] at h
      split at h
      · rename_i hm
        rw [Bool.and_eq_true] at hm
        obtain ⟨x, h1, h⟩ := obind h
        obtain ⟨y, h2, h⟩ := obind h
        obtain ⟨z, h3, h⟩ := obind h
        have h' : some (E.chain o o' x y z) = some i := h
        cases h'
        exact s_chain hm.2 (G.e c a x h1) (G.e c b y h2) (G.e c d z h3)
      · cases h
    | [o, o', o''], [b, d, f], h =>
      simp only [trE] at h
      split at h
      · rename_i hm
        rw [Bool.and_eq_true] at hm
        obtain ⟨x, h1, h⟩ := obind h
        obtain ⟨y, h2, h⟩ := obind h
        obtain ⟨z, h3, h⟩ := obind h
        obtain ⟨w, h4, h⟩ := obind h
        have h' : some (E.chain3 o o' o'' x y z w) = some i := h
        cases h'
        exact s_chain3 hm.2 (G.e c a x h1) (G.e c b y h2) (G.e c d z h3) (G.e c f w h4)
      · cases h
    | [], bs, h => simp [trE] at h
    | [o], [], h => simp [trE] at h
    | [o], b :: d :: r, h => simp [trE] at h
    | [o, o'], [], h => simp [trE] at h
    | [o, o'], [b], h => simp [trE] at h
    | [o, o'], b :: d :: f :: r, h => simp [trE] at h
    | [o, o', o''], [], h => simp [trE] at h
    | [o, o', o''], [b], h => simp [trE] at h
    | [o, o', o''], [b, d], h => simp [trE] at h
    | [o, o', o''], b :: d :: f :: g :: r, h => simp [trE] at h
    | o :: o' :: o'' :: o3 :: r, bs, h => simp [trE] at h
  | IfExp t a b p =>
    simp only [trE] at h
    split at h
    · rename_i ht
      obtain ⟨x, h1, h⟩ := obind h
      obtain ⟨y, h2, h⟩ := obind h
      obtain ⟨z, h3, h⟩ := obind h
      have h' : some (E.ite x y z) = some i := h
      cases h'
      exact s_ifexp (G.t c t x n h1 ht) (G.e c a y h2) (G.e c b z h3)
    · cases h
  | Tuple es m p =>
    simp only [trE] at h
    split at h
    · obtain ⟨⟨js, st⟩, h1, rfl⟩ := map_some h
      exact s_splT (G.sp c es js st h1)
    · obtain ⟨js, h1, rfl⟩ := map_some h
      exact s_tup (G.es c es js h1).1
  | List es p =>
    simp only [trE] at h
    split at h
    · obtain ⟨⟨js, st⟩, h1, rfl⟩ := map_some h
      exact s_splL (G.sp c es js st h1)
    · obtain ⟨js, h1, rfl⟩ := map_some h
      exact s_lst (G.es c es js h1).1
  | Dict keys values p =>
    simp only [trE] at h
    split at h
    · rename_i hc
      rw [Bool.and_eq_true, List.isEmpty_iff, List.isEmpty_iff] at hc
      obtain ⟨rfl, rfl⟩ := hc
      cases h
      exact s_dnew
    split at h
    · rename_i hc
      obtain ⟨js, h1, rfl⟩ := map_some h
      exact s_dsp hc.1 hc.2.1 hc.2.2 (G.kvs c keys values js h1)
    · cases h
  | Subscript a b p =>
    have dflt : (do let a ← trE c n a; let i ← trE c n b; pure (E.ix a i)) = some i → SE U k c (.Subscript a b p) i := fun h => by
      obtain ⟨x, h1, h⟩ := obind h
      obtain ⟨y, h2, h⟩ := obind h
      have h' : some (E.ix x y) = some i := h
      cases h'
      exact s_ix (trE_star h2).2 (G.e c a x h1) (G.e c b y h2)
    cases b with
    | Slice lo hi st sp =>
      cases st with
      | none =>
        simp only [trE] at h
        obtain ⟨x, h1, h⟩ := obind h
        obtain ⟨y, h2, h⟩ := obind h
        obtain ⟨z, h3, h⟩ := obind h
        have h' : some (E.sl x y z) = some i := h
        cases h'
        exact s_sl (G.e c a x h1) (G.op c lo y h2) (G.op c hi z h3)
      | some st =>
        by_cases hb : ∃ m p1 p2, lo = none ∧ hi = none ∧ st = .UnaryOp .USub (.Constant (.int 1) m p1) p2
        · obtain ⟨m, p1, p2, rfl, rfl, rfl⟩ := hb
          simp only [trE] at h
          obtain ⟨x, h1, rfl⟩ := map_some h
          exact s_rev (G.e c a x h1)
        · refine dflt ?_
          rw [trE] at h
          · exact h
          · intro l u q e
            cases e
          · intro m p1 p2 p3 e
            cases e
            exact hb ⟨_, _, _, rfl, rfl, rfl⟩
    | _ => exact dflt (by simpa only [trE] using h)
  | Call fe args kws pos =>
    cases kws with
    | cons kw kws => cases fe <;> first | (simp [trE] at h; done) | (rename_i x _; cases x <;> simp [trE] at h; done) | (rename_i x _ _; cases x <;> simp [trE] at h)
    | nil =>
      cases fe with
      | Name f p => exact gl_call G c f p pos args i h
      | Attribute o m ap => exact gl_meth G c o m ap pos args i h
      | Subscript a b sp =>
        cases a with
        | List fs lp => exact gl_menu G c fs lp sp pos b args i h
        | _ => simp [trE] at h
      | _ => simp [trE] at h
  | DictComp kx vx gs scope pos =>
    match gs, h with
    | [], h => simp [trE] at h
    | [⟨tg, iter, ifs, az⟩], h =>
      obtain ⟨rfl, e, f, g, it, co, rfl, S⟩ := gl_dc G c kx vx tg iter ifs scope pos i az h
      exact s_dc S
    | a :: b :: r, h => simp [trE] at h
  | ListComp elt gs scope pos =>
    match gs, h with
    | [], h => simp [trE] at h
    | [⟨tg, iter, ifs, az⟩], h =>
      obtain ⟨rfl, e, g, it, co, rfl, S⟩ := gl_lc G c elt tg iter ifs scope pos i az h
      exact s_lc S
    | a :: b :: r, h => simp [trE] at h
  | _ => simp [trE] at h
theorem gl_t {n : Nat} (G : Glue U k n) (c : Cc) (e : Expr) (i : E) (m : Nat) (h : trE c (n + 1) e = some i) (ht : tstOk m e = true) : ST U k c e i := by
  cases m with
  | zero => simp [tstOk] at ht
  | succ m =>
    have pl : plainT e = true → ST U k c e i := fun hp => st_plain hp (gl_e G c e i h)
    cases e with
    | UnaryOp o a p =>
      cases o with
      | Not =>
        simp only [trE] at h
        obtain ⟨x, h1, rfl⟩ := map_some h
        simp only [tstOk] at ht
        exact st_not (G.t c a x m h1 ht)
      | _ => exact pl rfl
    | BoolOp o vs p =>
      simp only [trE] at h
      simp only [tstOk] at ht
      exact st_w (G.boolw c o vs p i m h ht)
    | IfExp _ _ _ _ => simp [tstOk] at ht
    | Compare a os bs p =>
      match os, bs, h with
      | [o], [b], h =>
        simp only [trE] at h
        split at h
        · rename_i hm
          obtain ⟨x, h1, h⟩ := obind h
          obtain ⟨y, h2, h⟩ := obind h
          have h' : some (E.cmp o x y) = some i := h
          cases h'
          exact st_cmp hm (G.e c a x h1) (G.e c b y h2)
        · cases h
      | [o, o'], [b, d], h =>
        simp only [trE] at h
        split at h
        · rename_i hm
          rw [Bool.and_eq_true] at hm
          obtain ⟨x, h1, h⟩ := obind h
          obtain ⟨y, h2, h⟩ := obind h
          obtain ⟨z, h3, h⟩ := obind h
          have h' : some (E.chain o o' x y z) = some i := h
          cases h'
          exact st_chain hm.2 (G.e c a x h1) (G.e c b y h2) (G.e c d z h3)
        · cases h
      | [o, o', o''], [b, d, f], h =>
        simp only [trE] at h
        split at h
        · rename_i hm
          rw [Bool.and_eq_true] at hm
          obtain ⟨x, h1, h⟩ := obind h
          obtain ⟨y, h2, h⟩ := obind h
          obtain ⟨z, h3, h⟩ := obind h
          obtain ⟨w, h4, h⟩ := obind h
          have h' : some (E.chain3 o o' o'' x y z w) = some i := h
          cases h'
          exact st_chain3 hm.2 (G.e c a x h1) (G.e c b y h2) (G.e c d z h3) (G.e c f w h4)
        · cases h
      | [], bs, h => simp [trE] at h
      | [o], [], h => simp [trE] at h
      | [o], b :: d :: r, h => simp [trE] at h
      | [o, o'], [], h => simp [trE] at h
      | [o, o'], [b], h => simp [trE] at h
      | [o, o'], b :: d :: f :: r, h => simp [trE] at h
      | [o, o', o''], [], h => simp [trE] at h
      | [o, o', o''], [b], h => simp [trE] at h
      | [o, o', o''], [b, d], h => simp [trE] at h
      | [o, o', o''], b :: d :: f :: g :: r, h => simp [trE] at h
      | o :: o' :: o'' :: o3 :: r, bs, h => simp [trE] at h
    | _ => exact pl rfl
theorem glue : ∀ n, Glue U k n
  | 0 => glue0
  | n + 1 =>
    have G := glue n
    ⟨gl_e G, gl_t G, gl_es G, gl_rg G, gl_bool G, gl_boolw G, gl_op G, gl_ifs G, gl_it G, gl_kvs G, gl_sp G⟩
end
end PI
namespace PI
open PySem L2
/-- what the suite that tells an error's kind must do -/
def TrykOk (U : Wd) (k : Nat) : Prop := ∀ (c : Cc) (b : List Stmt) (b' : List S) (x y f : Str) (i j : Nat) (tbl : List D) (p1 p2 p3 p4 p5 p6 p7 : Pos), gbl c.sc x = true → okName x = true → ixIn x c.nm.cls = some i → gbl c.sc f = true → okName f = true → c.nm.kinds.lookup f = some tbl → ixIn y c.N = some j → lcl c.sc y = true → okName y = true → SSs U k c b b' →
  SS U k c (.Try b [.ExceptHandler (some (.Name x p1)) (some y) [.Return (some (.Call (.Name f p2) [.Name y p3] [] p4)) p5] p6] [] [] p7) (.tryk b' i tbl)
structure GlueS (U : Wd) (k n : Nat) : Prop where
  s : ∀ c s i, trS c n s = some i → SS U k c s i
  ss : ∀ c s i, trSs c n s = some i → SSs U k c s i
section
variable {U : Wd} {k : Nat}
theorem glS0 : GlueS U k 0 where
  s := fun c s i h => by simp [trS] at h
  ss := fun c s i h => by simp [trSs] at h
theorem glS_ss {n : Nat} (G : GlueS U k n) (c : Cc) (s : List Stmt) (i : List S) (h : trSs c (n + 1) s = some i) : SSs U k c s i := by
  cases s with
  | nil =>
    simp [trSs] at h
    subst h
    exact sss_nil
  | cons s ss =>
    rw [trSs] at h
    obtain ⟨x, h1, h⟩ := obind h
    obtain ⟨y, h2, h⟩ := obind h
    have h' : some (x :: y) = some i := h
    cases h'
    exact sss_cons (G.s c s x h1) (G.ss c ss y h2)
theorem glS_par (c : Cc) (gs es : List Expr) (kt k2 : Nat) (pt p2 pos : Pos) (i : S) {n : Nat} (h : trS c (n + 1) (.Assign [.Tuple gs kt pt] (.Tuple es k2 p2) pos) = some i) : SS U k c (.Assign [.Tuple gs kt pt] (.Tuple es k2 p2) pos) i := by
  simp only [trS] at h
  split at h
  · rename_i hc
    obtain ⟨h1, h2, h3⟩ := hc
    obtain ⟨js, g1, h⟩ := obind h
    split at h
    · rename_i nd
      obtain ⟨es', g2, h⟩ := obind h
      have h' : some (S.par js es') = some i := h
      cases h'
      obtain ⟨m, hm⟩ := Option.isSome_iff_exists.mp h3
      exact ss_par g1 nd h1 h2 hm ((glue 40).es c es es' g2).2.2.1
    · cases h
  · cases h
theorem glS_asg (c : Cc) (g e : Expr) (pos : Pos) (i : S) (ho : asgOk g e = true) (h : (if isComp2 e = true then none else do let g ← trG c 10 g; let e ← trE c 40 e; pure (S.asg g e)) = some i) : SS U k c (.Assign [g] e pos) i := by
  split at h
  · cases h
  · rename_i hc
    obtain ⟨g', h1, h⟩ := obind h
    obtain ⟨e', h2, h⟩ := obind h
    have h' : some (S.asg g' e') = some i := h
    cases h'
    by_cases hl : isComp e = true
    · cases e with
      | ListComp elt gs scope p =>
        match gs, h2, ho with
        | [], h2, _ => simp [trE] at h2
        | [⟨tg, iter, ifs, az⟩], h2, ho =>
          obtain ⟨rfl, e, g1, it, co, rfl, S⟩ := gl_lc (glue 39) c elt tg iter ifs scope p e' az h2
          exact ss_asgLc h1 ho S
        | a :: b :: r, h2, _ => simp [trE] at h2
      | SetComp _ _ _ _ => exact absurd rfl hc
      | DictComp kx vx gs scope p =>
        match gs, h2, ho with
        | [], h2, _ => simp [trE] at h2
        | [⟨tg, iter, ifs, az⟩], h2, ho =>
          obtain ⟨rfl, e, f, g1, it, co, rfl, S⟩ := gl_dc (glue 39) c kx vx tg iter ifs scope p e' az h2
          exact ss_asgDc h1 ho S
        | a :: b :: r, h2, _ => simp [trE] at h2
      | _ => simp [isComp] at hl
    · exact ss_asg h1 ho (by simpa using hl) ((glue 40).e c e e' h2)
theorem glS_raise (c : Cc) (exc cause : Option Expr) (pos : Pos) (i : S) (h : trRaise c exc cause = some i) : SS U k c (.Raise exc cause pos) i := by
  unfold trRaise at h
  split at h
  · split at h
    · rename_i hc
      rw [Bool.and_eq_true] at hc
      obtain ⟨y, h1, h⟩ := obind h
      split at h
      · rename_i hr
        cases h
        exact ss_raise hc.1 hc.2 h1 hr
      · cases h
    · cases h
  · cases h
theorem glS_try (HK : TrykOk U k) (c : Cc) (b : List Stmt) (hs : List ExceptHandler) (pos : Pos) (i : S) {bo : Option (List S)} (G : ∀ b', bo = some b' → SSs U k c b b') (h : trTry c bo hs = some i) : SS U k c (.Try b hs [] [] pos) i := by
  unfold trTry at h
  split at h
  · split at h
    · rename_i hc
      simp only [Bool.and_eq_true, decide_eq_true_eq] at hc
      obtain ⟨⟨⟨⟨⟨⟨c1, c2⟩, c3⟩, c4⟩, c6⟩, c7⟩, c8⟩ := hc
      subst c3
      obtain ⟨y1, h1, h⟩ := obind h
      obtain ⟨y2, h2, h⟩ := obind h
      obtain ⟨y3, h3, h⟩ := obind h
      obtain ⟨b', h4, h⟩ := obind h
      cases h
      exact HK c b b' _ _ _ y1 y2 y3 _ _ _ _ _ _ pos c1 c2 h1 c8 c7 h3 h2 c4 c6 (G b' h4)
    · cases h
  · split at h
    · rename_i hc
      rw [Bool.and_eq_true] at hc
      obtain ⟨y1, h1, h⟩ := obind h
      obtain ⟨y2, h2, h⟩ := obind h
      obtain ⟨b', h3, h⟩ := obind h
      cases h
      exact ss_try hc.1 hc.2 h1 h2 (G b' h3)
    · cases h
  · cases h
theorem glS_s (HK : TrykOk U k) {n : Nat} (G : GlueS U k n) (c : Cc) (s : Stmt) (i : S) (h : trS c (n + 1) s = some i) : SS U k c s i := by
  cases s with
  | Assign ts e pos =>
    match ts, h with
    | [], h => simp [trS] at h
    | a :: b :: r, h => simp [trS] at h
    | [g], h =>
      cases g with
      | Name x p => exact glS_asg c (.Name x p) e pos i rfl (by simpa only [trS] using h)
      | Tuple gs kt pt =>
        by_cases ht : ∃ es k2 p2, e = .Tuple es k2 p2
        · obtain ⟨es, k2, p2, rfl⟩ := ht
          exact glS_par c gs es kt k2 pt p2 pos i h
        · refine glS_asg c (.Tuple gs kt pt) e pos i ?_ ?_
          · cases e <;> first | rfl | exact absurd ⟨_, _, _, rfl⟩ ht
          · cases e <;> first | exact absurd ⟨_, _, _, rfl⟩ ht | (simpa only [trS] using h)
      | Subscript a j sp =>
        cases a with
        | Name x p =>
          simp only [trS] at h
          split at h
          · cases h
          · rename_i hc
            obtain ⟨y, h1, h⟩ := obind h
            obtain ⟨j', h2, h⟩ := obind h
            obtain ⟨e', h3, h⟩ := obind h
            have h' : some (S.setix y j' e') = some i := h
            cases h'
            exact ss_setix h1 (trE_star h2).2 (by simpa using hc) ((glue 40).e c j j' h2) ((glue 40).e c e e' h3)
        | _ =>
          simp only [trS] at h
          split at h
          · cases h
          · simp [trG] at h
      | _ =>
        simp only [trS] at h
        split at h
        · cases h
        · simp [trG] at h
  | AugAssign t o e pos =>
    cases t with
    | Name x p =>
      simp only [trS] at h
      obtain ⟨y, h1, h⟩ := obind h
      obtain ⟨e', h2, h⟩ := obind h
      have h' : some (S.aug y o e') = some i := h
      cases h'
      exact ss_aug h1 ((glue 40).e c e e' h2)
    | _ => simp [trS] at h
  | Expr e pos =>
    simp only [trS] at h
    split at h
    · cases h
    · rename_i hc
      obtain ⟨e', h1, rfl⟩ := map_some h
      exact ss_ex (by simpa using hc) ((glue 40).e c e e' h1)
  | Return e pos =>
    cases e with
    | none =>
      simp only [trS] at h
      cases h
      exact ss_retN
    | some e =>
      simp only [trS] at h
      obtain ⟨e', h1, rfl⟩ := map_some h
      exact ss_ret ((glue 40).e c e e' h1)
  | If t a b pos =>
    simp only [trS] at h
    split at h
    · rename_i ht
      obtain ⟨t', h1, h⟩ := obind h
      obtain ⟨a', h2, h⟩ := obind h
      obtain ⟨b', h3, h⟩ := obind h
      have h' : some (S.ite t' a' b') = some i := h
      cases h'
      exact ss_if ((glue 40).t c t t' 40 h1 ht) (G.ss c a a' h2) (G.ss c b b' h3)
    · cases h
  | For g it b orelse pos =>
    cases orelse with
    | cons _ _ => simp [trS] at h
    | nil =>
      simp only [trS] at h
      split at h
      · rename_i hc
        rw [Bool.and_eq_true] at hc
        obtain ⟨it', h1, h⟩ := obind h
        obtain ⟨g', h2, h⟩ := obind h
        obtain ⟨b', h3, h⟩ := obind h
        have h' : some (S.for_ g' it' b') = some i := h
        cases h'
        exact ss_for h2 hc.1 ((glue 40).it c it it' g h1 hc.2) (G.ss c b b' h3)
      · cases h
  | While t b orelse pos =>
    cases orelse with
    | cons _ _ => simp [trS] at h
    | nil =>
      simp only [trS] at h
      split at h
      · rename_i ht
        obtain ⟨t', h1, h⟩ := obind h
        obtain ⟨b', h2, h⟩ := obind h
        have h' : some (S.whl t' b') = some i := h
        cases h'
        exact ss_whl ((glue 40).t c t t' 40 h1 ht) (G.ss c b b' h2)
      · cases h
  | Break pos =>
    simp only [trS] at h
    cases h
    exact ss_brk
  | Continue pos =>
    simp only [trS] at h
    cases h
    exact ss_cnt
  | Pass pos =>
    simp only [trS] at h
    cases h
    exact ss_pass
  | Raise exc cause pos => exact glS_raise c exc cause pos i (by simpa only [trS] using h)
  | Try b hs orelse fin pos =>
    cases orelse with
    | cons _ _ => simp [trS] at h
    | nil =>
      cases fin with
      | cons _ _ => simp [trS] at h
      | nil => exact glS_try HK c b hs pos i (fun b' hb => G.ss c b b' hb) (by simpa only [trS] using h)
  | _ => simp [trS] at h
theorem glueS (HK : TrykOk U k) : ∀ n, GlueS U k n
  | 0 => glS0
  | n + 1 =>
    have G := glueS HK n
    ⟨glS_s HK G, glS_ss G⟩
end
end PI
/-! A def by its body. -/
namespace PI
open PySem L2 PyProof.Rows
theorem fng_of {P : Program} {w : World} {K : PySem.W.Frag} {mg : Str → Option Value} {base : Heap} {k : Nat} {x qual : Str} {st : Stmt} {f : Addr} {fd : FuncData} {N ps : List Str} {sp : Sp} (FF : Fun K x qual st f fd) (sc : FnScope N ps (defScope st))
    (len : ∀ vs H Q E, sp vs H Q E → vs.length = ps.length)
    (body : ∀ (cd : Value) (A : Around) (outer : List Env) (s : Shared) (H : Hp) (vs : List V) (Q : VK) (E : XK), Room k (A.deeper (envOfC qual (defScope st) s.heap.objs.size f cd)) → A.guards = some [] → sp vs H Q E →
      ∃ t, PSs (cxOf (L2.CX P w) P w K mg base N qual (defScope st) f cd A outer s H E) (defBody st) t ∧ t { nx := fun _ H' => Q .non H', rt := Q } (L2.start N vs) H) :
    FnG P w K mg base (k + 1) f fd ps sp := by
  obtain ⟨oc, od, kV, doc, pm, an, cd, ct, osl, rfl, lk, hcd⟩ := FF.ex
  refine ⟨len, ?_⟩
  intro A outer s H args us vs Q E room noG env0 binds vals hsp
  have h3 := len _ _ _ _ hsp
  have inK := env0.mod.kin.keeps (h' := s.heap) fun b o z => (env0.bs b o z).1
  have noLim := env0.mod.nolimit.keeps (h' := s.heap) fun b o z => (env0.bs b o z).1
  refine codeAny_call_function room.depth (inK _ _ lk) rfl sc.co sc.gen rfl (PySem.W.codeRec_of inK hcd) (binds _ _ _ _ (wpAny_newFunctionEnv_cells sc.kind ?_ ?_))
  · rintro ⟨n, v⟩ hy
    rcases sc.par n (List.of_mem_zip hy).1 with q | q
    · exact .inl q
    · exact .inr ⟨q, PySem.W.cellsFrom_some _ _ _ (.inl q)⟩
  · rintro _ rfl s1 ic
    obtain ⟨t, ht, hq⟩ := body cd A outer s H vs Q E (room.deeper _) noG hsp
    refine ⟨noLim.keeps ic.toInCall.keep, codeAny_func (wpAny_mono (ht.run [] s1 _ H _ (inv_start sc room.hd env0 h3 vals ic) hq) (fun fl s' q => ?_) fun _ _ z => z)⟩
    match fl, q with
    | .ret u, ⟨v, σ', H', J, rv, z⟩ => exact ⟨v, H', J.os, J.bare, J.base, J.hok, rv, z⟩
    | .next, ⟨σ', H', J, z⟩ => exact ⟨V.non, H', J.os, J.bare, J.base, J.hok, rfl, z⟩
    | .brk, ⟨_, _, _, z⟩ => exact z.elim
    | .cont, ⟨_, _, _, z⟩ => exact z.elim
section
variable {U : Wd} {k : Nat} {F H : Hp}
theorem vals_get {K : PySem.W.Frag} {ds : List D} {vs : List V} (h : RpL K F ds vs) (m : Nat) {i : Nat} {s : Sl} (e : (ds.map Sl.val ++ List.replicate m Sl.no)[i]? = some s) : s = .no ∨ ∃ d v, s = .val d ∧ vs[i]? = some v ∧ Rp K F d v := by
  by_cases hi : i < ds.length
  · rw [List.getElem?_append_left (by simpa using hi), List.getElem?_map, List.getElem?_eq_getElem hi] at e
    cases e
    obtain ⟨v, h1, h2⟩ := h.get (List.getElem?_eq_getElem hi)
    exact .inr ⟨_, v, rfl, h1, h2⟩
  · rw [List.getElem?_append_right (by simpa using hi), List.getElem?_replicate] at e
    split at e
    · cases e
      exact .inl rfl
    · cases e
theorem start_get {N : List Str} {vs : List V} {i : Nat} {v : V} (h : vs[i]? = some v) : (L2.start N vs)[i]? = some (some v) := by
  have hi := (List.getElem?_eq_some_iff.mp h).1
  unfold L2.start
  rw [List.getElem?_append_left (by simpa using hi), List.getElem?_map, h]
  rfl
theorem start_len {N : List Str} {vs : List V} (h : vs.length ≤ N.length) : (L2.start N vs).length = N.length := by
  unfold L2.start
  rw [List.length_append, List.length_map, List.length_replicate]
  omega
theorem rel_start {K : PySem.W.Frag} {N : List Str} {G : Fn} {ds : List D} {vs : List V} (sub : Same F H) (tp : Tp F H) (hs : G.slots = N.length) (hn : ds.length ≤ N.length) (hio : G.io = false) (hv : RpL K F ds vs) :
    Rel K ⟨H, F, none, fun _ => none⟩ (startR G ds) (L2.start N vs) F H := by
  have e : startR G ds = ds.map .val ++ List.replicate (N.length - ds.length) .no := by
    unfold startR
    rw [hio, hs]
  have hl := hv.length
  rw [e]
  refine ⟨sub, ?_, fun i d h => ?_, fun i m d h => ?_, fun i d h => ?_, (fun j q h => by cases h), fun i j m d m' d' p h => ?_, fun a o h _ => h, fun a o h z => z, Same.refl F, (fun p h => by cases h), tp⟩
  · rw [start_len (by omega), List.length_append, List.length_map, List.length_replicate]
    omega
  · rcases vals_get hv _ h with z | ⟨d', v, z, h1, h2⟩
    · cases z
    · cases z
      exact ⟨v, start_get h1, h2⟩
  · rcases vals_get hv _ h with z | ⟨d', v, z, _⟩ <;> cases z
  · rcases vals_get hv _ h with z | ⟨d', v, z, _⟩ <;> cases z
  · rcases vals_get hv _ h with z | ⟨d', v, z, _⟩ <;> cases z
theorem rel_startIo {K : PySem.W.Frag} {N : List Str} {G : Fn} {l ds : List D} {ws vs : List V} {p : Addr} (sub : Same F H) (tp : Tp F H) (hs : G.slots = N.length) (hn : ds.length + 1 ≤ N.length) (hio : G.io = true) (hF : F p = none) (hH : H p = some (.lst ws)) (hl : RpL K F l ws) (hv : RpL K F ds vs) :
    Rel K ⟨H, F, some p, fun _ => none⟩ (startR G (.lst l :: ds)) (L2.start N (.ref p :: vs)) F H := by
  have e : startR G (.lst l :: ds) = .own 1 (.lst l) :: (ds.map .val ++ List.replicate (N.length - (ds.length + 1)) .no) := by
    unfold startR
    rw [hio, hs, List.length_cons]
  have hlen := hv.length
  rw [e]
  refine ⟨sub, ?_, fun i d h => ?_, fun i m d h => ?_, fun i d h => ?_, (fun j q h => by cases h), fun i j m d m' d' q h1 h2 _ _ => ?_, fun a o h _ => h, fun a o h z => z, Same.refl F, fun q h => ?_, tp⟩
  · rw [start_len (by rw [List.length_cons]; omega), List.length_cons, List.length_append, List.length_map, List.length_replicate]
    omega
  · cases i with
    | zero => cases h
    | succ i =>
      rcases vals_get hv _ (show (ds.map Sl.val ++ _)[i]? = _ from h) with z | ⟨d', v, z, h1, h2⟩
      · cases z
      · cases z
        exact ⟨v, start_get (by simpa using h1), h2⟩
  · cases i with
    | zero =>
      cases h
      exact ⟨p, .lst ws, ⟨ws, rfl, hl⟩, start_get rfl, hF, hH, fun _ => rfl, fun z => absurd rfl z⟩
    | succ i => rcases vals_get hv _ (show (ds.map Sl.val ++ _)[i]? = _ from h) with z | ⟨d', v, z, _⟩ <;> cases z
  · cases i with
    | zero => cases h
    | succ i => rcases vals_get hv _ (show (ds.map Sl.val ++ _)[i]? = _ from h) with z | ⟨d', v, z, _⟩ <;> cases z
  · have z0 : ∀ {i m : Nat} {d : D}, (Sl.own 1 (.lst l) :: (ds.map Sl.val ++ List.replicate (N.length - (ds.length + 1)) Sl.no))[i]? = some (.own m d) → i = 0 := fun {i m d} h => by
      cases i with
      | zero => rfl
      | succ i => rcases vals_get hv _ (show (ds.map Sl.val ++ _)[i]? = _ from h) with z | ⟨d', v, z, _⟩ <;> cases z
    rw [z0 h1, z0 h2]
  · cases h
    exact ⟨⟨ws, hH⟩, _, hH⟩
/-- what is known of a def of the text -/
structure DefOk (U : Wd) (i : Nat) (x : Str) (st : Stmt) (N : List Str) (io : Bool) (body : List S) (n : Nat) : Prop where
  fn : U.pg.fns[i]? = some ⟨(U.ps i).length, N.length, io, body⟩
  fu : Fun U.K x x st (U.fa i) (U.fd i)
  sc : FnScope N (U.ps i) (defScope st)
  tr : trSs ⟨U.nm, N, defScope st, defScope st⟩ n (defBody st) = some body
theorem ctx_ok {N : List Str} {cd : Value} {A : Around} {outer : List Env} {s : Shared} {E : XK} {x : Str} {st : Stmt} {f : Addr} {ps : List Str} (ok : U.Ok) (ca : U.Calls k) (sc : FnScope N ps (defScope st)) (hr : Room k (A.deeper (envOfC x (defScope st) s.heap.objs.size f cd))) (hg : A.guards = some []) :
    SXOk U k ⟨U.nm, N, defScope st, defScope st⟩ (cxOf (L2.CX U.P U.w) U.P U.w U.K U.mg U.base N x (defScope st) f cd A outer s H E) where
  P := rfl
  w := rfl
  K := rfl
  mg := rfl
  base := rfl
  nm := rfl
  N := rfl
  nd := sc.nd
  sc := rfl
  fnk := sc.kind
  calm := rfl
  room := hr
  grd := hg
  ok := ok
  calls := ca
  tgt := fun y hy => by
    have hy' : loc (defScope st) y = true := hy
    unfold loc at hy'
    split at hy'
    · rename_i e
      exact ⟨.inl e, .inl rfl⟩
    · rename_i e
      exact ⟨.inr e, .inl rfl⟩
    · cases hy'
  own := passes_of rfl
  stack := rfl
  frame := rfl
theorem spI_len {i : Nat} : ∀ vs H Q E, spI U k i vs H Q E → vs.length = (U.ps i).length := fun vs H Q E h => by
  obtain ⟨F, ds, pp, _, _, h2, _⟩ := h
  exact h2
theorem def_ok (HK : TrykOk U k) (ok : U.Ok) (ca : U.Calls k) {i : Nat} {x : Str} {st : Stmt} {N : List Str} {io : Bool} {body : List S} {n : Nat} (D : DefOk U i x st N io body n) : FnG U.P U.w U.K U.mg U.base (k + 1) (U.fa i) (U.fd i) (U.ps i) (spI U (k + 1) i) := by
  refine fng_of D.fu D.sc spI_len fun cd A outer s H vs Q E hr hg sp => ?_
  have X := ctx_ok (H := H) (E := E) (outer := outer) ok ca D.sc hr hg
  obtain ⟨t, ht, hs⟩ := (glueS HK n).ss _ _ _ D.tr _ (fun cls d _ H => E cls d H) X (takes_of rfl rfl rfl rfl)
  refine ⟨t, ht, ?_⟩
  obtain ⟨F, ds, pp, sub, tp, hlen, hio, hcall⟩ := sp
  have hpl : (U.ps i).length ≤ N.length := by
    have := congrArg List.length D.sc.pre
    rw [List.length_take] at this
    omega
  rw [callN, D.fn] at hcall
  rw [D.fn] at hio
  simp only [runFn] at hcall
  cases io with
  | false =>
    obtain ⟨rfl, hv⟩ := hio
    have hdl : ds.length = (U.ps i).length := hv.length.trans hlen
    rw [if_pos hdl] at hcall
    refine hs ⟨H, F, none, fun _ => none⟩ (startR ⟨(U.ps i).length, N.length, false, body⟩ ds) (L2.start N vs) F H _ (rel_start sub tp rfl (by omega) rfl hv) ?_
    have hc : (U.gm k) = (U.pg.gm (callN U.pg k)) := rfl
    rw [hc]
    cases ex : exSs (U.pg.gm (callN U.pg k)) body (startR ⟨(U.ps i).length, N.length, false, body⟩ ds) with
    | bad =>
      rw [ex] at hcall
      exact hcall.elim
    | err c pl ρ =>
      rw [ex] at hcall
      intro σ F' H' r
      exact hcall F' H' r.grow r.sub r.tup (fun a o h z => r.keepH a o h z) (fun a o h z => r.keepF a o h z)
    | ok fl =>
      rw [ex] at hcall
      have fin : ∀ {σ : L2.St} {ρ : Rho} {F' H' : Hp}, Rel U.K ⟨H, F, none, fun _ => none⟩ ρ σ F' H' → Same F F' ∧ Same F' H' ∧ Tp F' H' ∧ (∀ a o, H a = some o → (none : Option Addr) ≠ some a → H' a = some o) ∧ (∀ a o, H a = some o → F a = none → F' a = none)   := fun r => ⟨r.grow, r.sub, r.tup, fun a o h z => r.keepH a o h z, fun a o h z => r.keepF a o h z⟩
      cases fl with
      | bk ρ => exact hcall.elim
      | ct ρ => exact hcall.elim
      | nx ρ =>
        intro σ F' H' r
        obtain ⟨a1, a2, a0, a3, a4⟩ := fin r
        exact hcall V.non F' H' a1 a2 a0 a3 a4 (fun p z => by cases z) rfl
      | rt q ρ =>
        intro v σ F' H' r rs
        obtain ⟨a1, a2, a0, a3, a4⟩ := fin r
        cases q with
        | dat d => exact hcall v F' H' a1 a2 a0 a3 a4 (fun p z => by cases z) rs
        | fre d =>
          obtain ⟨p, o, h4, rfl, h1, h2, h3, _⟩ := rs
          exact hcall _ F' H' a1 a2 a0 a3 a4 (fun p z => by cases z) ⟨p, o, h4, rfl, h3, h2, h1⟩
        | pl j =>
          obtain ⟨_, hs2⟩ := rs
          simp only [endFl] at hcall
          cases e : ρ[j]? with
          | none =>
            simp [e] at hcall
          | some sl =>
            cases sl with
            | no => simp [e] at hcall
            | val d => simp [e] at hcall
            | lent d => simp [e] at hcall
            | own m d =>
              match m with
              | m + 1 => simp [e] at hcall
              | 0 =>
                obtain ⟨p, o, g5, g2, g3, g4, _, g7⟩ := r.own j 0 d e
                rw [hs2] at g2
                cases g2
                rw [e] at hcall
                exact hcall _ F' H' a1 a2 a0 a3 a4 (fun p z => by cases z) ⟨p, o, g5, rfl, g7 (by decide), g3, g4⟩
  | true =>
    obtain ⟨p, d, l, ws, vr, rfl, rfl, hF, hH, rfl, hl, hv⟩ := hio
    have hdl : (PI.D.lst l :: d).length = (U.ps i).length := by
      rw [← hlen, List.length_cons, List.length_cons, hv.length]
    rw [if_pos hdl] at hcall
    refine hs ⟨H, F, some p, fun _ => none⟩ (startR ⟨(U.ps i).length, N.length, true, body⟩ (.lst l :: d)) (L2.start N (.ref p :: vr)) F H _ (rel_startIo sub tp rfl (by rw [List.length_cons] at hdl; omega) rfl hF hH hl hv) ?_
    have hc : (U.gm k) = (U.pg.gm (callN U.pg k)) := rfl
    rw [hc]
    cases ex : exSs (U.pg.gm (callN U.pg k)) body (startR ⟨(U.ps i).length, N.length, true, body⟩ (.lst l :: d)) with
    | bad =>
      rw [ex] at hcall
      exact hcall.elim
    | err c pl ρ =>
      rw [ex] at hcall
      exact hcall.elim
    | ok fl =>
      rw [ex] at hcall
      have fin : ∀ {σ : L2.St} {ρ : Rho} {F' H' : Hp}, Rel U.K ⟨H, F, some p, fun _ => none⟩ ρ σ F' H' → Same F F' ∧ Same F' H' ∧ Tp F' H' ∧ (∀ a o, H a = some o → (some p : Option Addr) ≠ some a → H' a = some o) ∧ (∀ a o, H a = some o → F a = none → F' a = none)   := fun r => ⟨r.grow, r.sub, r.tup, fun a o h z => r.keepH a o h z, fun a o h z => r.keepF a o h z⟩
      have io0 : ∀ {σ : L2.St} {ρ : Rho} {F' H' : Hp} {x : PI.D}, Rel U.K ⟨H, F, some p, fun _ => none⟩ ρ σ F' H' → ρ[0]? = some (.own 1 x) → ∀ q, (some p : Option Addr) = some q → ∃ l ws, x = .lst l ∧ H' q = some (.lst ws) ∧ RpL U.K F' l ws := fun {σ ρ F' H' x} r e q z => by
        cases z
        obtain ⟨p', o, g5, g2, g3, g4, g6, _⟩ := r.own 0 1 x e
        have := g6 rfl
        cases this
        obtain ⟨⟨vs, hv⟩, _⟩ := r.pin p rfl
        rw [hv] at g4
        cases g4
        cases x with
        | lst l =>
          obtain ⟨ws, e2, g5⟩ := g5
          cases e2
          exact ⟨l, vs, rfl, hv, g5⟩
        | dic t ks us =>
          obtain ⟨us', h1, _⟩ := g5
          cases t with
          | false =>
            obtain ⟨_, js, _, e2⟩ := h1
            cases e2
          | true =>
            obtain ⟨_, js, _, e2⟩ := h1
            cases e2
        | _ => exact g5.elim
      cases fl with
      | bk ρ => exact hcall.elim
      | ct ρ => exact hcall.elim
      | nx ρ =>
        intro σ F' H' r
        obtain ⟨a1, a2, a0, a3, a4⟩ := fin r
        simp only [endFl, if_true] at hcall
        cases e : ρ[0]? with
        | none => simp [e] at hcall
        | some sl =>
          cases sl with
          | no => simp [e] at hcall
          | val d => simp [e] at hcall
          | lent d => simp [e] at hcall
          | own m x =>
            match m with
            | 0 => simp [e] at hcall
            | m + 2 => simp [e] at hcall
            | 1 =>
              rw [e] at hcall
              exact hcall V.non F' H' a1 a2 a0 a3 a4 (io0 r e) rfl
      | rt q ρ =>
        intro v σ F' H' r rs
        obtain ⟨a1, a2, a0, a3, a4⟩ := fin r
        simp only [endFl, if_true] at hcall
        cases e : ρ[0]? with
        | none => simp [e] at hcall
        | some sl =>
          cases sl with
          | no => simp [e] at hcall
          | val d => simp [e] at hcall
          | lent d => simp [e] at hcall
          | own m x =>
            match m with
            | 0 => simp [e] at hcall
            | m + 2 => simp [e] at hcall
            | 1 =>
              rw [e] at hcall
              cases q with
              | dat d => exact hcall v F' H' a1 a2 a0 a3 a4 (io0 r e) rs
              | fre d =>
                obtain ⟨p, o, h4, rfl, h1, h2, h3, _⟩ := rs
                exact hcall _ F' H' a1 a2 a0 a3 a4 (io0 r e) ⟨p, o, h4, rfl, h3, h2, h1⟩
              | pl j =>
                obtain ⟨_, hs2⟩ := rs
                simp only at hcall
                cases e2 : ρ[j]? with
                | none => simp [e2] at hcall
                | some sl =>
                  cases sl with
                  | no => simp [e2] at hcall
                  | val d => simp [e2] at hcall
                  | lent d => simp [e2] at hcall
                  | own m d =>
                    match m with
                    | m + 1 => simp [e2] at hcall
                    | 0 =>
                      obtain ⟨p', o, g5, g2, g3, g4, _, g7⟩ := r.own j 0 d e2
                      rw [hs2] at g2
                      cases g2
                      rw [e2] at hcall
                      exact hcall _ F' H' a1 a2 a0 a3 a4 (io0 r e) ⟨p', o, g5, rfl, g7 (by decide), g3, g4⟩
end
end PI
/-! The suite that tells an error's kind. -/
namespace PI
open PySem L2 PyProof.Rows
/-- a def that is called in a suite, by its body; p: the error that is held -/
theorem fnk_of {P : Program} {w : World} {K : PySem.W.Frag} {mg : Str → Option Value} {base : Heap} {x qual : Str} {st : Stmt} {f : Addr} {fd : FuncData} {N ps : List Str} {sp : (Addr × Obj) → List V → Hp → VK → Prop} (FF : Fun K x qual st f fd) (sc : FnScope N ps (defScope st))
    (len : ∀ p vs H Q, sp p vs H Q → vs.length = ps.length)
    (body : ∀ (cd : Value) (A : Around) (outer : List Env) (s : Shared) (H : Hp) (vs : List V) (Q : VK) (E : XK) (p : Addr × Obj), sp p vs H Q →
      ∃ t, PSs (L2H.cxH (L2.CX P w) P w K mg base N qual (defScope st) f cd A outer s H E p) (defBody st) t ∧ t { nx := fun _ H' => Q .non H', rt := Q } (L2.start N vs) H)
    (A : Around) (outer : List Env) (s : Shared) (H : Hp) (args : Args) (us : List Value) (vs : List V) (Q : VK) (E : XK) (p : Addr × Obj) (dep : A.depth < recursionLimit) (pin : L2H.PinOk outer H s p) (env0 : Env0 P w K mg base A outer s H) (binds : BindsTo s fd args (ps.zip us)) (vals : Vals vs us) (hsp : sp p vs H Q) :
    codeAny (model P w) A (.call (.ref f) args) (CR (L2.CX P w) outer P w H s Q E) s := by
  obtain ⟨oc, od, kV, doc, pm, an, cd, ct, osl, rfl, lk, hcd⟩ := FF.ex
  have h3 := len _ _ _ _ hsp
  have inK := env0.mod.kin.keeps (h' := s.heap) fun b o z => (env0.bs b o z).1
  have noLim := env0.mod.nolimit.keeps (h' := s.heap) fun b o z => (env0.bs b o z).1
  refine codeAny_call_function dep (inK _ _ lk) rfl sc.co sc.gen rfl (PySem.W.codeRec_of inK hcd) (binds _ _ _ _ (wpAny_newFunctionEnv_cells sc.kind ?_ ?_))
  · rintro ⟨n, v⟩ hy
    rcases sc.par n (List.of_mem_zip hy).1 with q | q
    · exact .inl q
    · exact .inr ⟨q, PySem.W.cellsFrom_some _ _ _ (.inl q)⟩
  · rintro _ rfl s1 ic
    obtain ⟨t, ht, hq⟩ := body cd A outer s H vs Q E p hsp
    refine ⟨noLim.keeps ic.toInCall.keep, codeAny_func (wpAny_mono (ht.run [] s1 _ H _ (L2H.inv_startH sc pin env0 h3 vals ic) hq) (fun fl s' q => ?_) fun _ _ z => z)⟩
    match fl, q with
    | .ret u, ⟨v, σ', H', J, rv, z⟩ => exact ⟨v, H', J.os, J.bare, J.base, J.hok, rv, z⟩
    | .next, ⟨σ', H', J, z⟩ => exact ⟨V.non, H', J.os, J.bare, J.base, J.hok, rfl, z⟩
    | .brk, ⟨_, _, _, z⟩ => exact z.elim
    | .cont, ⟨_, _, _, z⟩ => exact z.elim

section
variable {U : Wd} {k : Nat} {c : Cc} {X : Cx} {W : WX} {H : Hp}
/-- isinstance(e, c), e an error that is pinned -/
theorem call_isP {p : Addr × Obj} {D : Addr} (C : ExcC X.K D) (hp : p ∈ X.pn) (hc : p.2.cls = .ref D) (hd : p.2.dict = none) (hf : ∃ vs, p.2.data = .fields vs) : CallR X (.builtin "isinstance") (rIsE X.K D p.1) := by
  intro pins s σ H xs us Q I r h
  obtain ⟨c, cv, b, rfl, hcv, e, q⟩ := h
  obtain ⟨u1, u2, rfl, r1, r2⟩ := vals2 r
  have e1 : u1 = .ref p.1 := r1
  have e2 := hcv _ r2
  subst e1 e2
  have hget := (I.pin p (List.mem_append_left _ hp)).1
  obtain ⟨vs, hv⟩ := hf
  have J : PySem.W.InstAt s.heap p.1 p.2 D none := by
    obtain ⟨pa, oc, od, oda, osl⟩ := p
    dsimp only at hc hd hv
    subst hc hd hv
    exact ⟨hget, rfl, rfl, trivial⟩
  exact PySem.W.kia_one (PySem.W.handS_kitx_exc C.hg C.hk C.hs C.hd C.ha C.hn C.ht C.hm) I.kIn J e (fun z => nomatch z) fun tk => ⟨.bl b, H, I.tok tk, rfl, q⟩
def rCntF (K : PySem.W.Frag) : V → List V → Hp → VK → Prop := fun x xs H Q => ∃ (p : Addr) (ys : List V) (y : V), x = .ref p ∧ xs = [y] ∧ SqL K H p ys ∧ flatV y = true ∧ ys.all flatV = true ∧ Q (.int ((ys.countP fun z => eqV z y : Nat) : Int)) H
theorem cnt_eq {y : V} : ∀ {ys : List V} {us : List Value}, Vals ys us → ys.all flatV = true → us.countP (eqU y) = ys.countP fun z => eqV z y
  | _, _, .nil, _ => rfl
  | z :: ys, u :: us, .cons r t, f => by
    rw [List.all_cons, Bool.and_eq_true] at f
    rw [List.countP_cons, List.countP_cons, cnt_eq t f.2, eqU_of r f.1]
theorem mt_cntF : MtR X "list.count" (rCntF X.K) := by
  intro pins s σ H x xs v us Q I rx rxs h
  obtain ⟨p, ys, y, rfl, rfl, hs, fy, fys, q⟩ := h
  cases rx
  obtain ⟨u, rfl, ru⟩ := rxs.one
  obtain ⟨its, rv, ⟨⟨cls, dd, data, sl⟩, n, ho, hc, hdn, hd⟩, hlen⟩ := I.list hs
  simp only at hc hd
  subst hc hd
  refine call_meets PySem.F.slot_list_count ⟨_, ho, rfl⟩ PySem.F.entry_list_count (PySem.F.args_list_count_2 _ _)
    (SeqAt.list_countAt p its.toArray n dd sl u (eqU y)) ⟨ho, fun u' hu' => mem_eqAt ru fy rv fys u' (by simpa using hu'), ?_⟩
  refine ⟨.int ((ys.countP fun z => eqV z y : Nat) : Int), H, I.tok _, ⟨s.toks, ?_⟩, q⟩
  show Value.int ((its.toArray.toList.countP (eqU y) : Nat) : Int) s.toks = _
  rw [show its.toArray.toList = its from rfl, cnt_eq rv fys]

/-! ### the shape of the def -/
def strC : Expr → Option Str
  | .Constant (.str x) _ _ => some x
  | _ => none
def isiC : Expr → Option Str
  | .Call (.Name i _) [.Name e _, .Name c _] [] _ => if i = ("isinstance" : Str) ∧ e = ("error" : Str) ∧ okName c = true then some c else none
  | _ => none
structure Kd where
  words : List Str
  c1 : List Str
  c2 : List Str
  tp : List Str
  bang : Str
  oth : Str
/-- found.count(True) == 1, perhaps: and isinstance(error, C) -/
def kdCnt : Expr → Bool
  | .Compare (.Call (.Attribute (.Name n5 _) m1 a1) [.Constant (.bool true) _ _] [] q1) [.Eq] [.Constant (.int 1) _ _] _ => decide (n5 = ("found" : Str) ∧ m1 = ("count" : Str) ∧ (a1.endLine == q1.line) = true)
  | _ => false
def kdTest : Expr → Option (List Str)
  | .BoolOp .And [c, e] _ => if kdCnt c then (isiC e).map fun x => [x] else none
  | c => if kdCnt c then some [] else none
def kdShape : List Stmt → Option Kd
  | [.Assign [.Name n1 _] (.List ws _) _, .Assign [.Name n2 _] (.List i1 _) _, .Assign [.Name n3 _] (.BinOp (.Name n4 _) .Add (.List i2 _) _) _,
      .Return (some (.IfExp tst
        (.BinOp (.Constant (.str bang) _ _) .Add (.Subscript (.Name n6 _) (.Call (.Attribute (.Name n7 _) m2 a2) [.Constant (.bool true) _ _] [] q2) _) _) (.Constant (.str oth) _ _) _)) _] =>
    if (n1 = ("names" : Str) ∧ n6 = ("names" : Str)) ∧ (n2 = ("found" : Str) ∧ n3 = ("found" : Str) ∧ n4 = ("found" : Str) ∧ n7 = ("found" : Str)) ∧ (m2 = ("index" : Str) ∧ (a2.endLine == q2.line) = true) then do
      let words ← ws.mapM strC
      let c1 ← i1.mapM isiC
      let c2 ← i2.mapM isiC
      let tp ← kdTest tst
      pure ⟨words, c1, c2, tp, bang, oth⟩
    else none
  | _ => none
def wordOf (d : Kd) (bs tbs : List Bool) : Option Str :=
  if bs.countP id = 1 ∧ tbs.all id = true then (bs.findIdx? id).bind fun j => (d.words[j]?).bind fun x => if d.bang.length + x.length ≤ sizeLine then some (d.bang ++ x) else none else some d.oth
/-- what is known of the def f that tells the kinds by the table tbl -/
structure KindOk (U : Wd) (f : Str) (tbl : List D) (j : Nat) (st : Stmt) (d : Kd) : Prop where
  ix : fnIx f U.nm.fns = some (j, false)
  fu : Fun U.K f f st (U.fa j) (U.fd j)
  ps : U.ps j = [("error" : Str)]
  sc : FnScope [("error" : Str), ("names" : Str), ("found" : Str)] [("error" : Str)] (defScope st)
  lc : lcl (defScope st) "error" = true ∧ lcl (defScope st) "names" = true ∧ lcl (defScope st) "found" = true
  gl : gbl (defScope st) "isinstance" = true ∧ (d.c1 ++ d.c2 ++ d.tp).all (fun x => gbl (defScope st) x && (ixIn x U.nm.cls).isSome) = true
  isn : U.mg "isinstance" = none
  sh : kdShape (defBody st) = some d
  len : d.words.length < 100 ∧ d.c1.length + d.c2.length < 100
  kit : ∀ (i : Nat) (x : D), tbl[i]? = some x → ∃ word bs tbs, x = .str word ∧ ExcC U.K (U.ca i) ∧ (d.c1 ++ d.c2).mapM (fun x => (ixIn x U.nm.cls).bind fun j => PySem.W.kitOne U.K (.ref (U.ca i)) (.ref (U.ca j))) = some bs ∧
    d.tp.mapM (fun x => (ixIn x U.nm.cls).bind fun j => PySem.W.kitOne U.K (.ref (U.ca i)) (.ref (U.ca j))) = some tbs ∧ wordOf d bs tbs = some word
theorem pa_strs : ∀ {ws : List Expr} {words : List Str}, ws.mapM strC = some words → ∃ t, PA X ws t ∧ ∀ σ H Q, Q (words.map V.str) H → t σ H Q
  | [], words, h => by
    simp at h
    subst h
    exact ⟨_, pa_nil, fun _ _ _ q => q⟩
  | e :: ws, words, h => by
    obtain ⟨x, r, h1, h2, rfl⟩ := mapM_cons_some h
    obtain ⟨t, p, q⟩ := pa_strs h2
    unfold strC at h1
    split at h1
    · cases h1
      exact ⟨_, pa_cons pe_str p (star_of rfl ws X.env), fun σ H Q hq => q σ H _ hq⟩
    · cases h1
theorem pa_isis {p : Addr × Obj} {i : Nat} (C : ExcC X.K (U.ca i)) (hp : p ∈ X.pn) (hc : p.2.cls = .ref (U.ca i)) (hd : p.2.dict = none) (hf : ∃ vs, p.2.data = .fields vs) (n0 : X.N[0]? = some ("error" : Str)) (v0 : Vis X.env.scope "error") (gi : Gl X "isinstance") (mi : X.mg "isinstance" = none) :
    ∀ {es : List Expr} {cs : List Str} {bs : List Bool}, es.mapM isiC = some cs → cs.mapM (fun x => (ixIn x U.nm.cls).bind fun j => PySem.W.kitOne X.K (.ref (U.ca i)) (.ref (U.ca j))) = some bs → (∀ x ∈ cs, Gl X x ∧ ∀ j, ixIn x U.nm.cls = some j → X.mg x = some (.ref (U.ca j))) →
    ∃ t, PA X es t ∧ ∀ σ H Q, σ[0]? = some (some (V.ref p.1)) → Q (bs.map V.bl) H → t σ H Q
  | [], cs, bs, h, g, _ => by
    simp at h
    subst h
    simp at g
    subst g
    exact ⟨_, pa_nil, fun _ _ _ _ q => q⟩
  | e :: es, cs, bs, h, g, gl => by
    obtain ⟨x, r, h1, h2, rfl⟩ := mapM_cons_some h
    obtain ⟨b, bs', g1, g2, rfl⟩ := mapM_cons_some g
    obtain ⟨t, pt, q⟩ := pa_isis C hp hc hd hf n0 v0 gi mi h2 g2 fun x hx => gl x (List.mem_cons_of_mem _ hx)
    obtain ⟨gx, mx⟩ := gl x List.mem_cons_self
    obtain ⟨j, e1, e2⟩ := Option.bind_eq_some_iff.mp g1
    unfold isiC at h1
    split at h1
    · rename_i i0 p1 e0 p2 c0 p3 p4
      split at h1
      · rename_i hcnd
        obtain ⟨rfl, rfl, ho⟩ := hcnd
        cases h1
        refine ⟨_, pa_cons (pe_callB (call_isP C hp hc hd hf) gi mi (by decide +kernel) (pa_cons (pe_var n0 v0 (by decide) (by decide)) (pa_cons (pe_glob (v := .ref (U.ca j)) gx (mx j e1) rfl (okName_dbg ho).1) pa_nil (star_of rfl [] X.env)) (star_of rfl _ X.env)) (by decide) (by decide) (star_of rfl _ X.env) rfl) pt (star_of rfl es X.env), fun σ H Q h0 hq => ?_⟩
        exact ⟨_, h0, V.ref (U.ca j), .ref (U.ca j), b, rfl, fun u hu => hu, e2, q σ H _ h0 hq⟩
      · cases h1
    · cases h1
theorem cnt_bl : ∀ bs : List Bool, (bs.map V.bl).countP (fun z => eqV z (.bl true)) = bs.countP id
  | [] => rfl
  | b :: bs => by
    rw [List.map_cons, List.countP_cons, List.countP_cons, cnt_bl bs]
    cases b <;> rfl
theorem fl_bl (bs : List Bool) : (bs.map V.bl).all flatV = true := by
  rw [List.all_map]
  exact List.all_eq_true.mpr fun b _ => rfl
theorem mapM_app {α β : Type} {f : α → Option β} : ∀ {l m : List α} {r : List β}, (l ++ m).mapM f = some r → ∃ r1 r2, l.mapM f = some r1 ∧ m.mapM f = some r2 ∧ r = r1 ++ r2
  | [], m, r, h => ⟨[], r, by simp, h, rfl⟩
  | a :: l, m, r, h => by
    obtain ⟨b, r', h1, h2, rfl⟩ := mapM_cons_some (show (a :: (l ++ m)).mapM f = some r from h)
    obtain ⟨r1, r2, g1, g2, rfl⟩ := mapM_app h2
    exact ⟨b :: r1, r2, by rw [List.mapM_cons, h1, g1]; rfl, g2, rfl⟩
theorem mapM_len {α β : Type} {f : α → Option β} : ∀ {l : List α} {r : List β}, l.mapM f = some r → l.length = r.length
  | [], r, h => by
    simp at h
    subst h
    rfl
  | a :: l, r, h => by
    obtain ⟨b, r', _, h2, rfl⟩ := mapM_cons_some h
    rw [List.length_cons, List.length_cons, mapM_len h2]
theorem same_new {a : Addr} {o : HO} (h : H a = none) : Same H (upd H a o) := same_upd h
theorem kd_cnt {e : Expr} (h : kdCnt e = true) (n2 : X.N[2]? = some ("found" : Str)) (v2 : Vis X.env.scope "found") :
    ∃ tt, PT X e tt ∧ ∀ (σ : L2.St) (H : Hp) (Q : Bool → Hp → Prop) (bs : List Bool) (a : Addr), σ[2]? = some (some (V.ref a)) → H a = some (.lst (bs.map V.bl)) → Q (decide (bs.countP id = 1)) H → tt σ H Q := by
  unfold kdCnt at h
  split at h
  · rename_i n5 p5 m1 a1 kk kp q1 k2 kp2 p6
    obtain ⟨rfl, rfl, ha1⟩ := of_decide_eq_true h
    have pf : ∀ p, PE X (.Name "found" p) (tVar 2) := fun _ => pe_var n2 v2 (by decide) (by decide)
    have bl1 : ∀ a b, PA X [.Constant (.bool true) a b] (tCons (tC (.bl true)) tNil) := fun a b => pa_cons pe_bl pa_nil (star_of rfl [] X.env)
    have pc := fun (np : Pos) (kk : Nat) (kp : Pos) => pe_bm (X := X) PySem.F.plainAttrs_list PySem.F.slot_list_count PySem.F.type_list_count mt_cntF (pf np) (bl1 kk kp) rfl (few_ok (es := [.Constant (.bool true) kk kp]) rfl (show 1 < 20 by decide) X.env _) ha1 (star_of rfl [] X.env) rfl
    refine ⟨_, pt_cmpR op_eq (pc _ _ _) pe_int rfl, fun σ H Q bs a h2 hf hq => ?_⟩
    refine ⟨_, h2, .inl ⟨rfl, _, SqL.of hf⟩, a, _, _, rfl, rfl, SqL.of hf, rfl, fl_bl _, rfl, ?_⟩
    rw [cnt_bl]
    refine ⟨_, rfl, ?_⟩
    have : decide (V.int ((bs.countP id : Nat) : Int) = V.int 1) = decide (bs.countP id = 1) := decide_eq_decide.mpr ⟨fun z => by have z2 := V.int.inj z; omega, fun z => by rw [z]; rfl⟩
    rw [this]
    exact hq
  · cases h
theorem kd_test {t : Expr} {tp : List Str} (h : kdTest t = some tp) {p : Addr × Obj} {i : Nat} {tbs : List Bool} (n0 : X.N[0]? = some ("error" : Str)) (v0 : Vis X.env.scope "error") (n2 : X.N[2]? = some ("found" : Str)) (v2 : Vis X.env.scope "found")
    (C : ExcC X.K (U.ca i)) (hp : p ∈ X.pn) (hc : p.2.cls = .ref (U.ca i)) (hd : p.2.dict = none) (hf : ∃ vs, p.2.data = .fields vs) (gi : Gl X "isinstance") (mi : X.mg "isinstance" = none)
    (gl : ∀ x ∈ tp, Gl X x ∧ ∀ j, ixIn x U.nm.cls = some j → X.mg x = some (.ref (U.ca j))) (hb : tp.mapM (fun x => (ixIn x U.nm.cls).bind fun j => PySem.W.kitOne X.K (.ref (U.ca i)) (.ref (U.ca j))) = some tbs) :
    ∃ tt, PT X t tt ∧ ∀ (σ : L2.St) (H : Hp) (Q : Bool → Hp → Prop) (bs : List Bool) (a : Addr), σ[0]? = some (some (V.ref p.1)) → σ[2]? = some (some (V.ref a)) → H a = some (.lst (bs.map V.bl)) → Q (decide (bs.countP id = 1) && tbs.all id) H → tt σ H Q := by
  have one : ∀ {c : Expr}, kdCnt c = true → some ([] : List Str) = some tp → ∃ tt, PT X c tt ∧ ∀ (σ : L2.St) (H : Hp) (Q : Bool → Hp → Prop) (bs : List Bool) (a : Addr), σ[0]? = some (some (V.ref p.1)) → σ[2]? = some (some (V.ref a)) → H a = some (.lst (bs.map V.bl)) → Q (decide (bs.countP id = 1) && tbs.all id) H → tt σ H Q := fun {c} hc h => by
    cases h
    simp at hb
    subst hb
    obtain ⟨tt, pt, q⟩ := kd_cnt hc n2 v2
    exact ⟨tt, pt, fun σ H Q bs a h0 h2 hf hq => q σ H Q bs a h2 hf (by simpa using hq)⟩
  unfold kdTest at h
  split at h
  · rename_i c e pb
    split at h
    · rename_i hcc
      obtain ⟨x, hx, rfl⟩ := map_some h
      obtain ⟨b, bs', g1, g2, rfl⟩ := mapM_cons_some hb
      simp at g2
      subst g2
      obtain ⟨gx, mx⟩ := gl x List.mem_cons_self
      obtain ⟨j, e1, e2⟩ := Option.bind_eq_some_iff.mp g1
      obtain ⟨tt, pt, q⟩ := kd_cnt hcc n2 v2
      unfold isiC at hx
      split at hx
      · rename_i i0 p1 e0 p2 c0 p3 p4
        split at hx
        · rename_i hcnd
          obtain ⟨rfl, rfl, ho⟩ := hcnd
          cases hx
          have pi := pe_callB (X := X) (e := .Name "error" p2) (es := [.Name x p3]) (call_isP C hp hc hd hf) gi mi (by decide +kernel) (pa_cons (pe_var n0 v0 (by decide) (by decide)) (pa_cons (pe_glob (v := .ref (U.ca j)) gx (mx j e1) rfl (okName_dbg ho).1) pa_nil (star_of rfl [] X.env)) (star_of rfl _ X.env)) (p := p1) (pos := p4) (by decide) (by decide) (star_of rfl _ X.env) rfl
          refine ⟨_, (pw_and pt (pw_and1 (pt_truth pi fun _ => rfl))).pt, fun σ H Q bs a h0 h2 hfa hq => ?_⟩
          refine q σ H _ bs a h2 hfa ?_
          by_cases z : bs.countP id = 1
          · rw [decide_eq_true z] at hq ⊢
            rw [if_pos rfl]
            refine ⟨_, h0, V.ref (U.ca j), .ref (U.ca j), b, rfl, fun u hu => hu, e2, b, rfl, ?_⟩
            simpa using hq
          · rw [decide_eq_false z] at hq ⊢
            rw [if_neg (by decide)]
            simpa using hq
        · cases hx
      · cases hx
    · cases h
  · split at h
    · rename_i hcc
      exact one hcc h
    · cases h
theorem kind_body {st : List Stmt} {d : Kd} (sh : kdShape st = some d) {p : Addr × Obj} {i : Nat} {bs : List Bool} {word : Str} (hN : X.N = [("error" : Str), ("names" : Str), ("found" : Str)]) (l0 : X.env.scope.names.lookup ("error" : Str) = some .local) (l1 : X.env.scope.names.lookup ("names" : Str) = some .local) (l2 : X.env.scope.names.lookup ("found" : Str) = some .local)
    (C : ExcC X.K (U.ca i)) (hp : p ∈ X.pn) (hc : p.2.cls = .ref (U.ca i)) (hd : p.2.dict = none) (hf : ∃ vs, p.2.data = .fields vs) (gi : Gl X "isinstance") (mi : X.mg "isinstance" = none)
    {tbs : List Bool} (gl : ∀ x ∈ d.c1 ++ d.c2 ++ d.tp, Gl X x ∧ ∀ j, ixIn x U.nm.cls = some j → X.mg x = some (.ref (U.ca j))) (hb : (d.c1 ++ d.c2).mapM (fun x => (ixIn x U.nm.cls).bind fun j => PySem.W.kitOne X.K (.ref (U.ca i)) (.ref (U.ca j))) = some bs)
    (htb : d.tp.mapM (fun x => (ixIn x U.nm.cls).bind fun j => PySem.W.kitOne X.K (.ref (U.ca i)) (.ref (U.ca j))) = some tbs) (hw : wordOf d bs tbs = some word) (len : d.words.length < 100 ∧ d.c1.length + d.c2.length < 100) :
    ∃ t, PSs X st t ∧ ∀ (σ : L2.St) (H : Hp) (Q : VK) (nx : L2.St → Hp → Prop), σ.length = 3 → σ[0]? = some (some (V.ref p.1)) → (∀ H', Same H H' → Tp H H' → Q (.str word) H') → t { nx := nx, rt := Q } σ H := by
  unfold kdShape at sh
  split at sh
  · split at sh
    · rename_i cnd
      obtain ⟨words, w1, sh2⟩ := Option.bind_eq_some_iff.mp sh
      obtain ⟨c1, w2, sh3⟩ := Option.bind_eq_some_iff.mp sh2
      obtain ⟨c2, w3, sh4⟩ := Option.bind_eq_some_iff.mp sh3
      obtain ⟨tp, w4, sh5⟩ := Option.bind_eq_some_iff.mp sh4
      cases sh5
      obtain ⟨⟨rfl, rfl⟩, ⟨rfl, rfl, rfl, rfl⟩, ⟨rfl, ha2⟩⟩ := cnd
      simp only at gl hb htb hw len
      obtain ⟨b1, b2, hb1, hb2, rfl⟩ := mapM_app hb
      have n0 : X.N[0]? = some ("error" : Str) := by rw [hN]; rfl
      have n1 : X.N[1]? = some ("names" : Str) := by rw [hN]; rfl
      have n2 : X.N[2]? = some ("found" : Str) := by rw [hN]; rfl
      have nd : X.N.Nodup := by rw [hN]; decide
      obtain ⟨tw, pw, qw⟩ := pa_strs (X := X) w1
      obtain ⟨t1, p1, q1⟩ := pa_isis C hp hc hd hf n0 (.inl l0) gi mi w2 hb1 fun x hx => gl x (List.mem_append_left _ (List.mem_append_left _ hx))
      obtain ⟨t2, p2, q2⟩ := pa_isis C hp hc hd hf n0 (.inl l0) gi mi w3 hb2 fun x hx => gl x (List.mem_append_left _ (List.mem_append_right _ hx))
      obtain ⟨t4, p4, q4⟩ := kd_test w4 n0 (.inl l0) n2 (.inl l2) C hp hc hd hf gi mi (fun x hx => gl x (List.mem_append_right _ hx)) htb
      have pn : ∀ p, PE X (.Name "names" p) (tVar 1) := fun _ => pe_var n1 (.inl l1) (by decide) (by decide)
      have pf : ∀ p, PE X (.Name "found" p) (tVar 2) := fun _ => pe_var n2 (.inl l2) (by decide) (by decide)
      have s1 : ∀ a b c, PS X (.Assign [.Name "names" a] (.List _ b) c) (tAsg (tLst tw) (gName 1)) := fun a b c => ps_set nd n1 (.inl l1) (pe_lst pw) rfl (.inr l1)
      have s2 : ∀ a b c, PS X (.Assign [.Name "found" a] (.List _ b) c) (tAsg (tLst t1) (gName 2)) := fun a b c => ps_set nd n2 (.inl l2) (pe_lst p1) rfl (.inr l2)
      have s3 : ∀ a b c d e, PS X (.Assign [.Name "found" a] (.BinOp (.Name "found" b) .Add (.List _ c) d) e) (tAsg (tOp rCat (tVar 2) (tLst t2)) (gName 2)) := fun a b c d e => ps_set nd n2 (.inl l2) (pe_op op_cat (pf b) (pe_lst p2)) rfl (.inr l2)
      have bl1 : ∀ a b, PA X [.Constant (.bool true) a b] (tCons (tC (.bl true)) tNil) := fun a b => pa_cons pe_bl pa_nil (star_of rfl [] X.env)
      have pi := fun (np : Pos) (kk : Nat) (kp : Pos) => pe_bm (X := X) PySem.F.plainAttrs_list PySem.F.slot_list_index PySem.F.type_list_index mt_index (pf np) (bl1 kk kp) rfl (few_ok (es := [.Constant (.bool true) kk kp]) rfl (show 1 < 20 by decide) X.env _) ha2 (star_of rfl [] X.env) rfl
      refine ⟨_, pss_cons (s1 _ _ _) (pss_cons (s2 _ _ _) (pss_cons (s3 _ _ _ _ _) (pss_one (ps_ret (pe_ifExp p4 (pe_op op_add_str pe_str (pe_ix ix_list (pn _) (pi _ _ _) (plainIx_of rfl))) pe_str))))), fun σ H Q nx h3 h0 hq => ?_⟩
      have ll1 := mapM_len hb1
      have ll2 := mapM_len hb2
      have hsz := sizeLine_eq
      refine qw σ H _ ⟨by rw [List.length_map]; omega, fun a1 f1 => ?_⟩
      show (tSeq _ _) _ _ _
      refine q1 _ _ _ (by rw [List.getElem?_set_ne (by decide)]; exact h0) ⟨by rw [List.length_map]; omega, fun a2 f2 => ?_⟩
      show (tSeq _ _) _ _ _
      refine ⟨_, List.getElem?_set_self (by simp [h3]), q2 _ _ _ (by rw [List.getElem?_set_ne (by decide), List.getElem?_set_ne (by decide)]; exact h0) ⟨by rw [List.length_map]; omega, fun a3 f3 => ?_⟩⟩
      refine ⟨a2, a3, b1.map V.bl, b2.map V.bl, rfl, rfl, same_upd f3 _ _ upd_same, upd_same, by rw [List.length_map, List.length_map]; omega, fun a4 f4 => ?_⟩
      have hf4 : (upd (upd (upd (upd H a1 (.lst (words.map V.str))) a2 (.lst (b1.map V.bl))) a3 (.lst (b2.map V.bl))) a4 (.lst (b1.map V.bl ++ b2.map V.bl))) a4 = some (.lst ((b1 ++ b2).map V.bl)) := by
        rw [List.map_append]
        exact upd_same
      have hs : Same H (upd (upd (upd (upd H a1 (.lst (words.map V.str))) a2 (.lst (b1.map V.bl))) a3 (.lst (b2.map V.bl))) a4 (.lst (b1.map V.bl ++ b2.map V.bl))) := (((same_upd f1).trans (same_upd f2)).trans (same_upd f3)).trans (same_upd f4)
      have htp : Tp H (upd (upd (upd (upd H a1 (.lst (words.map V.str))) a2 (.lst (b1.map V.bl))) a3 (.lst (b2.map V.bl))) a4 (.lst (b1.map V.bl ++ b2.map V.bl))) :=
        ((((show Tp H H from fun _ _ h => h).upd (o := .lst (words.map V.str)) (by intro _ z; cases z)).upd (o := .lst (b1.map V.bl)) (by intro _ z; cases z)).upd (o := .lst (b2.map V.bl)) (by intro _ z; cases z)).upd (by intro _ z; cases z)
      have hw1 : (upd (upd (upd (upd H a1 (.lst (words.map V.str))) a2 (.lst (b1.map V.bl))) a3 (.lst (b2.map V.bl))) a4 (.lst (b1.map V.bl ++ b2.map V.bl))) a1 = some (.lst (words.map V.str)) := same_upd f4 _ _ (same_upd f3 _ _ (same_upd f2 _ _ upd_same))
      refine q4 _ _ _ (b1 ++ b2) a4 (by rw [List.getElem?_set_ne (by decide), List.getElem?_set_ne (by decide), List.getElem?_set_ne (by decide)]; exact h0) (List.getElem?_set_self (by simp [h3])) hf4 ?_
      unfold wordOf at hw
      by_cases hc0 : (b1 ++ b2).countP id = 1 ∧ tbs.all id = true
      · rw [if_pos hc0] at hw
        obtain ⟨hc1, hc2⟩ := hc0
        obtain ⟨j, j1, hw⟩ := Option.bind_eq_some_iff.mp hw
        obtain ⟨x, j2, hw⟩ := Option.bind_eq_some_iff.mp hw
        split at hw
        · rename_i hz
          cases hw
          rw [decide_eq_true hc1, hc2, Bool.and_self, if_pos rfl]
          have hj := List.findIdx?_eq_some_iff_getElem.mp j1
          obtain ⟨hlt, hjt, hno⟩ := hj
          have gb : ∀ {m : Nat} (hm : m < (b1 ++ b2).length), ((b1 ++ b2).map V.bl)[m]? = some (V.bl (b1 ++ b2)[m]) := fun hm => by
            rw [List.getElem?_map, List.getElem?_eq_getElem hm]
            rfl
          refine ⟨V.ref a1, by rw [List.getElem?_set_ne (by decide), List.getElem?_set_ne (by decide)]; exact List.getElem?_set_self (by rw [h3]; decide), V.ref a4, List.getElem?_set_self (by simp [h3]), .inl ⟨rfl, _, SqL.of hf4⟩, a4, (b1 ++ b2).map V.bl, V.bl true, j, V.bl true, rfl, rfl, SqL.of hf4, rfl, fl_bl _, ?_, rfl, ?_, ?_⟩
          · rw [gb hlt]
            exact congrArg some (congrArg V.bl hjt)
          · intro m z' hm hz'
            rw [gb (by omega)] at hz'
            cases hz'
            have := hno m hm
            cases q : (b1 ++ b2)[m] with
            | false => rfl
            | true =>
              rw [q] at this
              exact absurd rfl this
          · refine ⟨a1, words.map V.str, ((j : Nat) : Int), V.str x, rfl, rfl, SqL.of hw1, ?_, ⟨_, x, rfl, rfl, hz, hq _ hs htp⟩⟩
            have hxl : j < words.length := (List.getElem?_eq_some_iff.mp j2).1
            unfold atI ixN
            rw [if_pos (by omega), if_pos (by rw [List.length_map]; omega), Option.bind_some]
            show (words.map V.str)[((j : Nat) : Int).toNat]? = _
            rw [Int.toNat_natCast, List.getElem?_map, show words[j]? = some x from j2]
            rfl
        · cases hw
      · rw [if_neg hc0] at hw
        cases hw
        have : (decide ((b1 ++ b2).countP id = 1) && tbs.all id) = false := by
          rw [Bool.and_eq_false_iff]
          by_cases z : (b1 ++ b2).countP id = 1
          · refine .inr ?_
            cases q : tbs.all id with
            | false => rfl
            | true => exact absurd ⟨z, q⟩ hc0
          · exact .inl (decide_eq_false z)
        rw [this, if_neg (by decide)]
        exact hq _ hs htp
    · cases sh
  · cases sh
/-- what the def promises: p the error that is held -/
def spK (U : Wd) (tbl : List D) (p : Addr × Obj) (vs : List V) (H : Hp) (Q : VK) : Prop := vs = [.ref p.1] ∧ ∃ i word, p.2.cls = .ref (U.ca i) ∧ p.2.dict = none ∧ (∃ fs, p.2.data = .fields fs) ∧ tbl[i]? = some (.str word) ∧ ∀ H', Same H H' → Tp H H' → Q (.str word) H'
theorem gbl_L {sc : Scope} {x : Str} (h : gbl sc x = true) : sc.names.lookup x = some .globalImplicit := by
  unfold gbl at h
  split at h
  · assumption
  · cases h
theorem kind_run {f : Str} {tbl : List D} {j : Nat} {st : Stmt} {d : Kd} (ok : U.Ok) (K : KindOk U f tbl j st d) (A : Around) (outer : List Env) (s : Shared) (H : Hp) (args : Args) (us : List Value) (vs : List V) (Q : VK) (E : XK) (p : Addr × Obj) (dep : A.depth < recursionLimit) (pin : L2H.PinOk outer H s p) (env0 : Env0 U.P U.w U.K U.mg U.base A outer s H)
    (binds : BindsTo s (U.fd j) args ((U.ps j).zip us)) (vals : Vals vs us) (hsp : spK U tbl p vs H Q) : codeAny (model U.P U.w) A (.call (.ref (U.fa j)) args) (CR (L2.CX U.P U.w) outer U.P U.w H s Q E) s := by
  rw [K.ps] at binds
  refine fnk_of (sp := spK U tbl) K.fu K.sc (fun p vs H Q h => by rw [h.1]; rfl) (fun cd A outer s H vs Q E p hsp => ?_) A outer s H args us vs Q E p dep pin env0 binds vals hsp
  obtain ⟨rfl, i, word, h1, h2, h3, h4, h5⟩ := hsp
  obtain ⟨word', bs, tbs, e1, C, hb, htb, hw⟩ := K.kit i _ h4
  cases e1
  obtain ⟨l0, l1, l2⟩ := K.lc
  obtain ⟨g1, g2⟩ := K.gl
  have gl : ∀ x ∈ d.c1 ++ d.c2 ++ d.tp, (defScope st).names.lookup x = some .globalImplicit ∧ ∀ j, ixIn x U.nm.cls = some j → U.mg x = some (.ref (U.ca j)) := fun x hx => by
    have z := List.all_eq_true.mp g2 x hx
    rw [Bool.and_eq_true] at z
    exact ⟨gbl_L z.1, fun j hj => (ok.cls x j hj).1⟩
  obtain ⟨t, ht, hq⟩ := kind_body (U := U) (X := L2H.cxH (L2.CX U.P U.w) U.P U.w U.K U.mg U.base [("error" : Str), ("names" : Str), ("found" : Str)] f (defScope st) (U.fa j) cd A outer s H E p) (p := p) K.sh rfl (lcl_of l0) (lcl_of l1) (lcl_of l2) C (List.mem_singleton.mpr rfl) h1 h2 h3 (gbl_L g1) K.isn gl hb htb hw K.len
  exact ⟨t, ht, hq _ H Q _ rfl rfl h5⟩
theorem Rel.lays {K : PySem.W.Frag} {B : Fx} {ρ : Rho} {σ : L2.St} {F H H' : Hp} (r : Rel K B ρ σ F H) (s : Same H H') (t : Tp H H') : Rel K B ρ σ F H' where
  sub := r.sub.trans s
  len := r.len
  val := r.val
  own := fun i m d e => by
    obtain ⟨q, o', h1, h2, h3, h4, h5⟩ := r.own i m d e
    exact ⟨q, o', h1, h2, h3, s _ _ h4, h5⟩
  lent := r.lent
  lnk := r.lnk
  sep := r.sep
  keepH := fun a u q z => s _ _ (r.keepH a u q z)
  keepF := r.keepF
  grow := r.grow
  pin := fun q e => ⟨let ⟨vs, x⟩ := (r.pin q e).1; ⟨vs, s _ _ x⟩, (r.pin q e).2⟩
  tup := fun b vs q => r.tup b vs (t b vs q)
def tK (U : Wd) (tbl : List D) (n j : Nat) (a : Addr) (cls : Value) (d : Option Addr) : TE := fun σ H Q => (σ.length = n → σ[j]? = some (some (V.ref a))) ∧ d = none ∧ ∃ i word, cls = .ref (U.ca i) ∧ tbl[i]? = some (.str word) ∧ ∀ H', Same H H' → Tp H H' → Q (.str word) H'
theorem kind_runX {f : Str} {tbl : List D} {j : Nat} {st : Stmt} {d : Kd} (ok : XOk U k c X) (K : KindOk U f tbl j st d) (A : Around) (outer : List Env) (s : Shared) (H : Hp) (args : Args) (us : List Value) (vs : List V) (Q : VK) (E : XK) (p : Addr × Obj) (dep : A.depth < recursionLimit) (pin : L2H.PinOk outer H s p) (env0 : Env0 X.prog X.w X.K X.mg X.base A outer s H)
    (binds : BindsTo s (U.fd j) args ((U.ps j).zip us)) (vals : Vals vs us) (hsp : spK U tbl p vs H Q) : codeAny (model X.prog X.w) A (.call (.ref (U.fa j)) args) (CR (L2.CX X.prog X.w) outer X.prog X.w H s Q E) s := by
  rw [ok.P, ok.w] at *
  rw [ok.K, ok.mg, ok.base] at env0
  exact kind_run ok.ok K A outer s H args us vs Q E p dep pin env0 binds vals hsp
theorem pe_kind {f y : Str} {tbl : List D} {j jf : Nat} {st : Stmt} {d : Kd} {a : Addr} {oe : Obj} {cls : Value} {dd : Option Addr} {pn : List (Addr × Obj)} {p2 p3 p4 : Pos} (ok : XOk U k c X) (K : KindOk U f tbl jf st d) (hg : gbl c.sc f = true) (ho : okName f = true) (hj : X.N[j]? = some y) (hv : Vis X.env.scope y) (hy : okName y = true)
    (hz : Zc cls dd oe) (hf : ∃ vs, oe.data = .fields vs) : PE (X.suite a ((a, oe) :: pn)) (.Call (.Name f p2) [.Name y p3] [] p4) (tK U tbl X.N.length j a cls dd) := by
  obtain ⟨m1, m2, m3, _⟩ := ok.ok.fmg f jf false K.ix
  rw [← ok.mg] at m1
  rw [← ok.K] at m2 m3
  obtain ⟨d1, d2, _⟩ := okName_dbg hy
  have ha : PA (X.suite a ((a, oe) :: pn)) [.Name y p3] (tCons (tVar j) tNil) := pa_cons (pe_var (X := X.suite a ((a, oe) :: pn)) hj hv d1 d2) pa_nil (star_of rfl [] X.env)
  refine ⟨fun pins s σ H Q I h => wpAny_Call_Name_kw (ld_glob I (show Gl (X.suite a ((a, oe) :: pn)) f from gbl_of (X := X) hg ok) m1 ?_ (okName_dbg ho).1)⟩
  obtain ⟨h1, rfl, i, word, rfl, h2, h3⟩ := h
  have hs := h1 I.len
  refine PySem.W.callWith_K (h₀ := X.base) I.ok.mod.kin m2 (thn (ha.run p4 pins s σ H (fun vs H1 => vs = [V.ref a] ∧ H1 = H) I ⟨_, hs, rfl, rfl⟩) fun us s1 ⟨vs, H1, I1, rv, q⟩ => ⟨I1.kIn, ?_⟩) (star_of rfl [] X.env) rfl
  obtain ⟨rfl, rfl⟩ := q
  have P1 := I1.pin (a, oe) (List.mem_append_left _ List.mem_cons_self)
  have hpin : L2H.PinOk X.stack H1 s1 (a, oe) := ⟨P1.1, P1.2.1, fun hm => (List.mem_cons.mp (I1.stkSub _ hm)).elim P1.2.2.1 P1.2.2.2.1, P1.2.2.2.2⟩
  have hl : us.length = (U.ps jf).length := by rw [← rv.length, K.ps]; rfl
  have hb : BindsTo s1 (U.fd jf) ⟨us, []⟩ ((U.ps jf).zip us) := by
    have z := m3 s1 us I1.kIn (by simpa using hl)
    simpa using z
  have dep : (X.A.mark (some (.ref a))).depth < recursionLimit := by
    have := ok.room.dp
    show X.A.depth < _
    omega
  refine wpAny_call (codeAny_mono (kind_runX ok K (X.A.mark (some (.ref a))) X.stack s1 H1 ⟨us, []⟩ us _ Q (fun _ _ _ => False) (a, oe) dep hpin I1.env0 hb rv ⟨rfl, i, word, hz.1, hz.2, hf, h2, h3⟩) fun r s' hq => ?_)
  match r, hq with
  | .error e, hq =>
    obtain ⟨_, _, _, _, _, _, _, _, _, _, _, _, z⟩ := hq
    exact z.elim
  | .ok (.ret u), hq => exact I1.after hq
theorem tryk_ok (KK : ∀ f tbl, U.nm.kinds.lookup f = some tbl → ∃ j st d, KindOk U f tbl j st d) : TrykOk U k := by
  intro c b b' x y f i j tbl p1 p2 p3 p4 p5 p6 p7 hx1 hx2 hx3 hf1 hf2 hf3 hy1 hy2 hy3 sb X W ok tk
  rw [ok.nm] at hf3
  obtain ⟨jf, st, d, K⟩ := KK f tbl hf3
  obtain ⟨g1, g2, g3, g4⟩ := cls_get hx1 hx2 hx3 ok.toXOk
  have hj : X.N[j]? = some y := by rw [ok.N]; exact ixIn_get hy1
  have hl : X.env.scope.names.lookup y = some .local := by rw [ok.sc]; exact lcl_of hy2
  have hall : ∀ V : WX, ∃ t, (∀ q : List (Addr × Obj) × (Value → Shared → Prop), (Takes (X.tr q.1 q.2) V ∧ PassesOwn (model X.prog X.w) X.A X.env q.2) → PSs (X.tr q.1 q.2) b t) ∧ TSSok U X.K k V b' t := fun V =>
    pss_uni fun q hq => sb _ V (tr_ok ok hq.2) hq.1
  refine ⟨_, L2H.ps_try_asH (tb := fun V => Classical.choose (hall V)) (ts := fun a cls dd => tRet (tK U tbl X.N.length j a cls dd)) ok.stack ok.frame ok.nd hj hl ⟨g1, g2, .inl g3⟩ tk (fun V pn xe _ h1 h2 => (Classical.choose_spec (hall V)).1 (pn, xe) ⟨h1, h2⟩)
    (fun a oe cls dd pn hz hf => pss_one (ps_ret (pe_kind ok.toXOk K hf1 hf2 hj (.inl hl) hy3 hz hf))), fun B ρ σ F H D rel h => ?_⟩
  rw [exS] at h
  refine (Classical.choose_spec (hall (wAs X.K (.ref (U.ca i)) j (fun a cls dd => tRet (tK U tbl X.N.length j a cls dd)) W D))).2 B ρ σ F H D rel ?_
  cases ex : exSs (U.gm k) b' ρ with
  | bad =>
    rw [ex] at h
    exact h.elim
  | ok fl =>
    rw [ex] at h
    exact h
  | err c' pl ρ' =>
    rw [ex] at h
    intro σ' F' H' rel'
    simp only at h
    cases an : (U.gm k).anc c' i with
    | none =>
      rw [an] at h
      exact h.elim
    | some z =>
      rw [an] at h
      refine ⟨z, by rw [ok.K]; exact ok.ok.anc c' i z an, fun e a ha => ?_, fun e => ?_⟩
      · subst e
        obtain ⟨d0, e0, h2⟩ := Po.ofO' (show Po (ofO tbl[c']? >>= fun d => pure (Fl.rt (.dat d) ρ')) (okS X.K B D) (erS U X.K B W) from h)
        obtain ⟨word, bs, tbs, rfl, _⟩ := K.kit c' d0 e0
        refine ⟨fun hn => List.getElem?_set_self ?_, rfl, c', word, rfl, e0, fun H2 s2 t2 => h2 _ σ' F' H2 (rel'.lays s2 t2) rfl⟩
        rw [List.length_set] at hn
        rw [hn]
        exact (List.getElem?_eq_some_iff.mp hj).1
      · subst e
        exact h σ' F' H' rel'
end
end PI
/-! All defs; a law's end. -/
namespace PI
open PySem L2 PyProof.Rows
section
variable {U : Wd}
theorem fnG_no {k i : Nat} (h : ∀ ds, callN U.pg k i ds = .bad) : FnG U.P U.w U.K U.mg U.base k (U.fa i) (U.fd i) (U.ps i) (spI U k i) := by
  refine ⟨spI_len, fun A outer s H args us vs Q E _ _ _ _ _ sp => ?_⟩
  obtain ⟨F, ds, pp, _, _, _, _, z⟩ := sp
  rw [h ds] at z
  exact z.elim
theorem bad_brk {k i p s : Nat} {io : Bool} (h : U.pg.fns[i]? = some ⟨p, s, io, [.brk]⟩) (ds : List D) : callN U.pg (k + 1) i ds = .bad := by
  rw [callN, h]
  simp only [runFn]
  split
  · have e : ∀ Γ ρ, exSs Γ [.brk] ρ = .ok (.bk ρ) := fun Γ ρ => by rw [exSs, exS]; rfl
    rw [e]
    rfl
  · rfl
/-- each def is translated, or left out -/
def AllDefs (U : Wd) : Prop := ∀ x i b, fnIx x U.nm.fns = some (i, b) → (∃ st N io body n, DefOk U i x st N io body n) ∨ ∃ p s io, U.pg.fns[i]? = some ⟨p, s, io, [.brk]⟩
theorem calls_all (ok : U.Ok) (KK : ∀ f tbl, U.nm.kinds.lookup f = some tbl → ∃ j st d, KindOk U f tbl j st d) (DD : AllDefs U) : ∀ k, U.Calls k
  | 0 => fun x i b h => fnG_no fun ds => rfl
  | k + 1 => fun x i b h => by
    rcases DD x i b h with ⟨st, N, io, body, n, D⟩ | ⟨p, s, io, e⟩
    · exact def_ok (tryk_ok KK) ok (calls_all ok KK DD k) D
    · exact fnG_no fun ds => bad_brk e ds
end
/-- THE HEAD, for such a promise -/
theorem law_callG {P : Program} {w : World} {K : PySem.W.Frag} {mg mb : Str → Option Value} {k : Nat} {fa a : Addr} {fd : FuncData} {x : Str} {sp : Heap → Sp} {s₁ : Shared} {vs : List Value} {ns : List Int}
    (inK : K.In s₁.heap) (glb : s₁.heap.Ns mainGlobals mg) (blt : s₁.heap.Ns builtinsNs mb) (boot : ∀ y : Str, y ≠ "__name__" → mb y = bootBuiltins y) (lim : s₁.heap.NoLimit) (gens : s₁.gens = #[])
    (ha : s₁.heap.get? a = some { cls := .type "list", data := .seq vs.toArray }) (hints : IntsAre vs ns) (small : ns.length ≤ sizeLine) (room : Room k callerA)
    (F : ∀ base : Heap, K.In base → base.Ns mainGlobals mg → FnG P w K mg base k fa fd [x] (sp base)) (bnd : ∀ (s : Shared) (u : Value), BindsTo s fd ⟨[u], []⟩ [(x, u)])
    (hsp : ∀ (base : Heap) (H : Hp), K.In base → base.Ns mainGlobals mg → SqL K H a (ns.map V.int) → sp base [.ref a] H (fun v _ => v = .bl true) fun _ _ _ => False) :
    codeAny (model P w) callerA (.call (.ref fa) ⟨[.ref a], []⟩) (fun r s' => r = .ok (.ret (.bool true)) ∧ OldK s₁.heap s'.heap ∧ s'.os = s₁.os ∧ AllBare s'.gens) s₁ := by
  have rv : Vals (ns.map V.int) vs := vals_ints hints
  -- nothing is tracked but, perhaps, the script, which is frozen
  suffices main : ∀ H : Hp, SqL K H a (ns.map V.int) → HOk P w H s₁.heap → (∀ b u, H b = some u → b = a ∧ K.lookup a = none ∧ ∃ o xs, u = .frz o (.lst xs)) → _ by
    cases hk : K.lookup a with
    | some o =>
      have e := inK a o hk
      rw [ha] at e
      cases e
      exact main (fun _ => none) (.inr ⟨_, vs.toArray, _, hk, rfl, rfl, rfl, by rw [List.size_toArray, hints.length]; exact small, by simpa using rv⟩) (fun b u z => nomatch z) fun b u z => nomatch z
    | none =>
      have dec : ∀ {b : Addr} {u : HO}, (if b = a then some (HO.frz { cls := .type "list", data := .seq vs.toArray } (.lst (ns.map V.int))) else none) = some u → b = a ∧ u = HO.frz { cls := .type "list", data := .seq vs.toArray } (.lst (ns.map V.int)) := fun {b u} z => by
        by_cases hb : b = a
        · rw [if_pos hb] at z
          exact ⟨hb, (Option.some.inj z).symm⟩
        · rw [if_neg hb] at z
          cases z
      refine main (fun b => if b = a then some (.frz { cls := .type "list", data := .seq vs.toArray } (.lst (ns.map V.int))) else none) (.inl (.inr ⟨_, if_pos rfl⟩)) (fun b u z => ?_) fun b u z => ?_
      · obtain ⟨rfl, rfl⟩ := dec z
        exact ⟨ha, by rw [List.length_map]; exact small, vs, _, rv, ha⟩
      · obtain ⟨rfl, rfl⟩ := dec z
        exact ⟨rfl, hk, _, _, rfl⟩
  intro H hS hok only
  have up : ∀ {b : Addr} {o : Obj}, s₁.heap.get? b = some o → H b = none → (hidT s₁.heap H).get? b = some o := fun e n => hidT_get e n
  have ns' : ∀ {b : Addr} {m : Str → Option Value}, s₁.heap.Ns b m → (hidT s₁.heap H).Ns b m := fun {b m} ⟨o, es, ep, e, d, r⟩ => by
    refine ⟨o, es, ep, up e ?_, d, r⟩
    cases q : H b with
    | none => rfl
    | some u =>
      obtain ⟨rfl, _⟩ := only b u q
      rw [ha] at e
      cases e
      cases (show Data.seq vs.toArray _ = Data.dict es ep from d)
  have inB : K.In (hidT s₁.heap H) := fun b o e => up (inK b o e) (by
    cases q : H b with
    | none => rfl
    | some u =>
      obtain ⟨rfl, hn, _⟩ := only b u q
      rw [hn] at e
      cases e)
  obtain ⟨mc, lim1, lim2⟩ := lim
  have md : Mod K mg (hidT s₁.heap H) := ⟨inB, ns' glb, ⟨mb, ns' blt, boot⟩, mc, ns' lim1, lim2⟩
  have e0 : Env0 P w K mg (hidT s₁.heap H) callerA [] s₁ H := ⟨rfl, md, fun b o e => of_hidT e, Nat.le_of_eq (hidT_size _ _), trivial, (fun b hb => absurd (show b ∈ ([] : List Addr) from hb) List.not_mem_nil), hok, .of_eq gens⟩
  refine codeAny_mono ((F _ inB (ns' glb)).run callerA [] s₁ H ⟨[.ref a], []⟩ [.ref a] [.ref a] _ _ room rfl e0 (bnd s₁ (.ref a)) (.cons rfl .nil) (hsp _ H inB (ns' glb) hS)) fun r s' h => ?_
  match r, h with
  | .error e, h =>
    obtain ⟨_, _, _, _, _, _, _, _, _, _, _, _, z⟩ := h
    exact z.elim
  | .ok (.ret u), ⟨v, H', os, bare, un, hok', r', q⟩ =>
    have q' : v = .bl true := q
    subst q'
    obtain rfl : u = Value.bool true := r'
    refine ⟨rfl, OldK.of_keep fun b o e => ?_, os, bare⟩
    cases hb : H b with
    | none => exact un.keep b o e hb (fun z => absurd (show b ∈ ([] : List Addr) from z) List.not_mem_nil) (by simp)
    | some u =>
      obtain ⟨_, _, ob, xs, rfl⟩ := only b u hb
      obtain ⟨e1, _⟩ := hok b _ hb
      obtain ⟨e2, _⟩ := hok' b _ (un.frzs b ob _ hb)
      rw [e] at e1
      cases e1
      exact e2
/-- a law that its plain words fulfil -/
theorem walk_pi {l : PySem.W.OpenLaw} {k : Nat} {q : Program} {loose : List Str} {XP : (Str → Option Value) → Heap → Prop} {YP : World → Heap → Prop} {d : DefRec} {K : Params → PySem.W.Frag} {pg : Pg} {li : Nat}
    (hn : l.most = some 63) (hdf : d.params.defaults = []) (hr : Room k callerA) (hY : ∀ (w : World) (h : Heap), YP w h → (K w.params).In h)
    (F : ∀ (w : World) (mg : Str → Option Value) (fa : Addr) (h : Heap), (K w.params).In h → h.Ns mainGlobals mg → mg d.name = some (.ref fa) →
      ∃ fd : FuncData, (∀ (s : Shared) (u : Value), BindsTo s fd ⟨[u], []⟩ [(("script" : Str), u)]) ∧ ∀ base : Heap, (K w.params).In base → base.Ns mainGlobals mg →
        ∃ U : Wd, U.pg = pg ∧ U.K = K w.params ∧ U.ps li = [("script" : Str)] ∧ FnG l.prog w (K w.params) mg base k fa fd [("script" : Str)] (spI U k li))
    (io : ∃ p s b, pg.fns[li]? = some ⟨p, s, false, b⟩)
    (law : ∀ ns : List Int, ns.length ≤ 63 → (∀ z ∈ ns, Builtin.Int.intBits z ≤ 1048576) → ∃ o, callN pg k li [.scr (ns.map .int)] = .ok (.bl true) false o) :
    PySem.W.WalkO q loose XP YP l.row.toRowW d [] (fun f vs => PySem.call f vs) := by
  refine Att.attach_callB hn hdf fun w s₀ s₁ mg mb fa o pm cd doc a vs ns G Y ho hd hcd hmg hobj hints hlen hbits hg => ?_
  have KX := hY w _ Y
  obtain ⟨fd, hb, hF⟩ := F w mg fa _ KX G.T.g hmg
  have hF' : ∀ base : Heap, ∃ U : Wd, ((K w.params).In base → base.Ns mainGlobals mg → U.pg = pg ∧ U.K = K w.params ∧ U.ps li = [("script" : Str)] ∧ FnG l.prog w (K w.params) mg base k fa fd [("script" : Str)] (spI U k li)) := fun base => by
    by_cases h : (K w.params).In base ∧ base.Ns mainGlobals mg
    · obtain ⟨U, hU⟩ := hF base h.1 h.2
      exact ⟨U, fun _ _ => hU⟩
    · obtain ⟨U, _⟩ := hF _ KX G.T.g
      exact ⟨U, fun h1 h2 => absurd ⟨h1, h2⟩ h⟩
  refine law_callG (sp := fun base => spI (Classical.choose (hF' base)) k li) KX G.T.g G.T.b G.T.builtins G.T.nolimit hg hobj hints (Nat.le_trans hlen (by decide)) hr (fun base h1 h2 => (Classical.choose_spec (hF' base) h1 h2).2.2.2) hb fun base H h1 h2 hS => ?_
  obtain ⟨e1, e2, e3, _⟩ := Classical.choose_spec (hF' base) h1 h2
  generalize Classical.choose (hF' base) = U at e1 e2 e3
  obtain ⟨o, ho⟩ := law ns hlen hbits
  obtain ⟨p, s, b, hio⟩ := io
  refine ⟨H, [.scr (ns.map .int)], none, Same.refl H, fun _ _ h => h, by rw [e3]; rfl, ?_, ?_⟩
  · rw [e1, hio]
    exact ⟨rfl, .ref a, [], rfl, ⟨a, rfl, .inl ⟨_, by rw [e2]; exact hS, RpL.ofInts ns⟩⟩, rfl⟩
  · rw [e1, ho]
    intro v F' H' _ _ _ _ _ _ hv
    exact hv
end PI
/-! From facts of the top to the promises. -/
namespace PI
open PySem L2 PyProof.Rows
/-- a def of the text: name, statement, places, parameters, whether the first one is the caller's list -/
structure Dq where
  x : Str
  st : Stmt
  N : List Str
  np : Nat
  io : Bool
def Dq.tr (nm : Nm) (d : Dq) : Option (List S) := trSs ⟨nm, d.N, defScope d.st, defScope d.st⟩ 60 (defBody d.st)
def Dq.fn (nm : Nm) (d : Dq) : Fn := ⟨d.np, d.N.length, d.io, (d.tr nm).getD [.brk]⟩
def mkPg (nm : Nm) (ds : List Dq) (anc : List (List Bool)) : Pg := ⟨ds.map (Dq.fn nm), anc, 10000⟩
def Dq.ok (d : Dq) : Bool :=
  (match (defScope d.st).kind with | .function => true | _ => false) && !(defScope d.st).isCoroutine && !(defScope d.st).isGenerator && decide d.N.Nodup && decide (d.np ≤ d.N.length) && ((d.N.take d.np).all fun x => loc (defScope d.st) x) && (defScope d.st).names.all fun y => !(y.2 == .free)
theorem Dq.sc {d : Dq} (h : d.ok = true) : FnScope d.N (d.N.take d.np) (defScope d.st) ∧ (d.N.take d.np).length = d.np := by
  unfold Dq.ok at h
  simp only [Bool.and_eq_true, Bool.not_eq_true', decide_eq_true_eq] at h
  obtain ⟨⟨⟨⟨⟨⟨h1, h2⟩, h3⟩, h4⟩, h5⟩, h6⟩, h7⟩ := h
  have hl : (d.N.take d.np).length = d.np := by
    rw [List.length_take]
    omega
  refine ⟨⟨?_, h2, h3, h4, by rw [hl], fun x hx => ?_, fun y hy e => ?_⟩, hl⟩
  · split at h1
    · assumption
    · cases h1
  · have := List.all_eq_true.mp h6 x hx
    unfold loc at this
    split at this
    · exact .inl (by assumption)
    · exact .inr (by assumption)
    · cases this
  · have := List.all_eq_true.mp h7 y hy
    rw [e] at this
    cases this
def DefsF (K : PySem.W.Frag) : List Dq → List (Addr × FuncData) → Prop
  | [], fs => fs = []
  | d :: ds, fs => ∃ f fd r, fs = (f, fd) :: r ∧ PySem.W.nsIn K mainGlobals d.x = some (some (.ref f)) ∧ Fun K d.x d.x d.st f fd ∧ Binds K fd (d.N.take d.np) [] ∧ DefsF K ds r
theorem defsF_nil {K : PySem.W.Frag} : ∃ fs, DefsF K [] fs := ⟨[], rfl⟩
theorem defsF_cons {K : PySem.W.Frag} {x : Str} {st : Stmt} {N : List Str} {np : Nat} {io : Bool} {ds : List Dq} {f : Addr} {od an : Option Addr} {sl : Array (Option Value)} {oc kV dc pm cd ct : Value} (a : PySem.W.nsIn K mainGlobals x = some (some (.ref f)))
    (l : K.lookup f = some ⟨oc, od, .func (PySem.W.fnOf x x (defArgs st) (defBody st) (defScope st) .none kV dc pm an cd ct), sl⟩) (c : PySem.W.codeIn K cd x = true) (k : PySem.W.keepIn K (.ref f) = true)
    (b : ∀ (kV doc pm : Value) (an : Option Addr) (cdv ct : Value) (us : List Value), us.length = (N.take np).length → bindArgs (PySem.W.fnOf x x (defArgs st) (defBody st) (defScope st) .none kV doc pm an cdv ct) ⟨us, []⟩ = pure ((N.take np).zip us))
    (r : ∃ fs, DefsF K ds fs) : ∃ fs, DefsF K (⟨x, st, N, np, io⟩ :: ds) fs := by
  obtain ⟨fs, h⟩ := r
  have F := fun_mk (st := st) l c k
  exact ⟨_, _, _, fs, rfl, a, F, F.binds b, h⟩
theorem DefsF.get {K : PySem.W.Frag} : ∀ {ds : List Dq} {fs : List (Addr × FuncData)} {i : Nat} {d : Dq}, DefsF K ds fs → ds[i]? = some d → ∃ f fd, fs[i]? = some (f, fd) ∧ PySem.W.nsIn K mainGlobals d.x = some (some (.ref f)) ∧ Fun K d.x d.x d.st f fd ∧ Binds K fd (d.N.take d.np) []
  | [], _, i, d, _, e => by simp at e
  | _ :: ds, fs, 0, d, ⟨f, fd, r, h1, h2, h3, h4, h5⟩, e => by
    cases e
    exact ⟨f, fd, by rw [h1]; rfl, h2, h3, h4⟩
  | _ :: ds, fs, i + 1, d, ⟨f, fd, r, h1, h2, h3, h4, h5⟩, e => by
    obtain ⟨f', fd', g1, g2⟩ := DefsF.get (i := i) (d := d) h5 (by simpa using e)
    exact ⟨f', fd', by rw [h1]; simpa using g1, g2⟩
def nmOf (ds : List Dq) (cls : List Str) (cons : List (Str × D)) (kinds : List (Str × List D)) (ras : List Nat) : Nm := ⟨ds.map fun d => (d.x, d.io), cls, cons, kinds, ras⟩
theorem fnIx_get : ∀ {ds : List Dq} {x : Str} {i : Nat} {b : Bool}, fnIx x (ds.map fun d => (d.x, d.io)) = some (i, b) → ∃ d, ds[i]? = some d ∧ d.x = x ∧ d.io = b
  | [], x, i, b, h => by simp [fnIx] at h
  | d :: ds, x, i, b, h => by
    simp only [List.map_cons, fnIx] at h
    split at h
    · rename_i e
      cases h
      exact ⟨d, rfl, e, rfl⟩
    · obtain ⟨p, e1, e2⟩ := map_some h
      cases e2
      obtain ⟨d', g1, g2, g3⟩ := fnIx_get (i := p.1) (b := p.2) e1
      exact ⟨d', by simpa using g1, g2, g3⟩
/-- the text's world -/
def wdOf (P : Program) (w : World) (K : PySem.W.Frag) (mg : Str → Option Value) (base : Heap) (nm : Nm) (ds : List Dq) (anc : List (List Bool)) (fs : List (Addr × FuncData)) (p0 : Addr × FuncData) (cs : List Addr) : Wd :=
  ⟨P, w, K, mg, base, nm, mkPg nm ds anc, fun i => ((fs[i]?).getD p0).1, fun i => ((fs[i]?).getD p0).2, fun i => ((ds[i]?).map fun d => d.N.take d.np).getD [], fun i => (cs[i]?).getD 0⟩
def bltNames : List Str := ["len", "sum", "all", "any", "tuple", "list", "sorted", "min", "max", "int", "str", "repr", "abs", "dict", "range", "enumerate", "zip", "isinstance"]
/-- facts of the classes -/
structure ClsF (K : PySem.W.Frag) (nm : Nm) (anc : List (List Bool)) (cs : List Addr) : Prop where
  ns : ∀ x i, ixIn x nm.cls = some i → PySem.W.nsIn K mainGlobals x = some (some (.ref ((cs[i]?).getD 0))) ∧ PySem.W.keepIn K (.ref ((cs[i]?).getD 0)) = true
  ras : ∀ i ∈ nm.ras, PySem.W.excIn K ((cs[i]?).getD 0) [.type "ValueError", .type "Exception", .type "BaseException", .type "object"] "ValueError.__new__" = true ∧ PySem.W.subIn K (.ref ((cs[i]?).getD 0)) (.type "BaseException") = some true ∧ PySem.W.typeIn K (.ref ((cs[i]?).getD 0)) = some (.type "type")
  anc : ∀ (i j : Nat) (b : Bool), ((anc[i]? : Option (List Bool)).bind fun r => r[j]?) = some b → PySem.W.exmOne K (.ref ((cs[i]?).getD 0)) (.ref ((cs[j]?).getD 0)) = some b
section
variable {P : Program} {w : World} {K : PySem.W.Frag} {mg : Str → Option Value} {base h : Heap} {ds : List Dq} {cls : List Str} {cons : List (Str × D)} {kinds : List (Str × List D)} {ras : List Nat} {anc : List (List Bool)} {fs : List (Addr × FuncData)} {p0 : Addr × FuncData} {cs : List Addr}
theorem wd_ok (KX : K.In h) (G : h.Ns mainGlobals mg) (hF : DefsF K ds fs) (hC : ClsF K (nmOf ds cls cons kinds ras) anc cs) (hok : ds.all Dq.ok = true)
    (hcon : ∀ x d, cons.lookup x = some d → ∃ u v, PySem.W.nsIn K mainGlobals x = some (some u) ∧ RelV v u ∧ ∀ F, Rp K F d v)
    (hblt : ∀ x ∈ bltNames, fnIx x (nmOf ds cls cons kinds ras).fns = none → ixIn x cls = none → cons.lookup x = none → PySem.W.nsIn K mainGlobals x = some none) :
    (wdOf P w K mg base (nmOf ds cls cons kinds ras) ds anc fs p0 cs).Ok where
  fmg := fun x i b hx => by
    obtain ⟨d, e1, rfl, rfl⟩ := fnIx_get hx
    obtain ⟨f, fd, g1, g2, g3, g4⟩ := hF.get e1
    have hd := (Dq.sc (List.all_eq_true.mp hok d (List.mem_of_getElem? e1))).2
    have q1 : (wdOf P w K mg base (nmOf ds cls cons kinds ras) ds anc fs p0 cs).fa i = f := by simp [wdOf, g1]
    have q2 : (wdOf P w K mg base (nmOf ds cls cons kinds ras) ds anc fs p0 cs).fd i = fd := by simp [wdOf, g1]
    have q3 : (wdOf P w K mg base (nmOf ds cls cons kinds ras) ds anc fs p0 cs).ps i = d.N.take d.np := by simp [wdOf, e1]
    rw [q1, q2, q3]
    refine ⟨PySem.W.mg_of KX G g2, g3.kp, g4, d.fn (nmOf ds cls cons kinds ras), ?_, rfl, hd⟩
    simp [wdOf, mkPg, e1]
  con := fun x d hx => by
    obtain ⟨u, v, h1, h2, h3⟩ := hcon x d hx
    exact ⟨u, v, PySem.W.mg_of KX G h1, h2, h3⟩
  blt := fun x hx h1 h2 h3 => PySem.W.mg_none_of KX G (hblt x hx h1 h2 h3)
  cls := fun x i hx => let ⟨h1, h2⟩ := hC.ns x i hx; ⟨PySem.W.mg_of KX G h1, h2⟩
  ras := hC.ras
  anc := hC.anc
theorem all_defs (hF : DefsF K ds fs) (hok : ds.all Dq.ok = true) : AllDefs (wdOf P w K mg base (nmOf ds cls cons kinds ras) ds anc fs p0 cs) := fun x i b hx => by
  obtain ⟨d, e1, rfl, rfl⟩ := fnIx_get hx
  obtain ⟨f, fd, g1, g2, g3, g4⟩ := hF.get e1
  obtain ⟨sc, hd⟩ := Dq.sc (List.all_eq_true.mp hok d (List.mem_of_getElem? e1))
  have q0 : (wdOf P w K mg base (nmOf ds cls cons kinds ras) ds anc fs p0 cs).pg.fns[i]? = some (d.fn (nmOf ds cls cons kinds ras)) := by simp [wdOf, mkPg, e1]
  have q1 : (wdOf P w K mg base (nmOf ds cls cons kinds ras) ds anc fs p0 cs).fa i = f := by simp [wdOf, g1]
  have q2 : (wdOf P w K mg base (nmOf ds cls cons kinds ras) ds anc fs p0 cs).fd i = fd := by simp [wdOf, g1]
  have q3 : (wdOf P w K mg base (nmOf ds cls cons kinds ras) ds anc fs p0 cs).ps i = d.N.take d.np := by simp [wdOf, e1]
  cases ht : d.tr (nmOf ds cls cons kinds ras) with
  | none =>
    refine .inr ⟨d.np, d.N.length, d.io, ?_⟩
    rw [q0]
    simp [Dq.fn, ht]
  | some body =>
    refine .inl ⟨d.st, d.N, d.io, body, 60, ?_, ?_, ?_, ht⟩
    · rw [q0, q3, hd]
      simp [Dq.fn, ht]
    · rw [q1, q2]
      exact g3
    · rw [q3]
      exact sc
/-- the law's def by what its plain words give -/
theorem law_fn (KX : K.In h) (G : h.Ns mainGlobals mg) (hF : DefsF K ds fs) (hC : ClsF K (nmOf ds cls cons kinds ras) anc cs) (hok : ds.all Dq.ok = true)
    (hcon : ∀ x d, cons.lookup x = some d → ∃ u v, PySem.W.nsIn K mainGlobals x = some (some u) ∧ RelV v u ∧ ∀ F, Rp K F d v)
    (hblt : ∀ x ∈ bltNames, fnIx x (nmOf ds cls cons kinds ras).fns = none → ixIn x cls = none → cons.lookup x = none → PySem.W.nsIn K mainGlobals x = some none)
    (hkind : ∀ f tbl, kinds.lookup f = some tbl → ∃ j st d, KindOk (wdOf P w K mg base (nmOf ds cls cons kinds ras) ds anc fs p0 cs) f tbl j st d) {x : Str} {i : Nat} {b : Bool} (hx : fnIx x (nmOf ds cls cons kinds ras).fns = some (i, b)) (k : Nat) :
    let U := wdOf P w K mg base (nmOf ds cls cons kinds ras) ds anc fs p0 cs
    FnG P w K mg base k (U.fa i) (U.fd i) (U.ps i) (spI U k i) :=
  calls_all (wd_ok KX G hF hC hok hcon hblt) hkind (all_defs hF hok) k x i b hx
end
end PI
/-! Facts of the classes; the head. -/
namespace PI
open PySem L2 PyProof.Rows
/-- what the written part says of one class of errors -/
structure One (K : PySem.W.Frag) (x : Str) (C : Addr) : Prop where
  ns : PySem.W.nsIn K mainGlobals x = some (some (.ref C))
  kp : PySem.W.keepIn K (.ref C) = true
  exc : PySem.W.excIn K C [.type "ValueError", .type "Exception", .type "BaseException", .type "object"] "ValueError.__new__" = true
  ty : PySem.W.typeIn K (.ref C) = some (.type "type")
  ex : ExcC K C
def ClsL (K : PySem.W.Frag) : List Str → List Addr → Prop
  | [], cs => cs = []
  | x :: r, cs => ∃ C r', cs = C :: r' ∧ One K x C ∧ ClsL K r r'
theorem clsL_nil {K : PySem.W.Frag} : ClsL K [] [] := rfl
theorem clsL_cons {K : PySem.W.Frag} {x : Str} {r : List Str} {C : Addr} {cs : List Addr} (ns : PySem.W.nsIn K mainGlobals x = some (some (.ref C))) (kp : PySem.W.keepIn K (.ref C) = true)
    (exc : PySem.W.excIn K C [.type "ValueError", .type "Exception", .type "BaseException", .type "object"] "ValueError.__new__" = true) (ty : PySem.W.typeIn K (.ref C) = some (.type "type"))
    (hg : PySem.W.findIn K (.ref C) "__getattribute__" = some (some (.builtin "BaseException.__getattribute__"))) (hk : PySem.W.findIn K (.ref C) "__getattr__" = some none) (hs : PySem.W.subIn K (.ref C) (.type "BaseException") = some true) (hd : PySem.W.hasDictIn K C = true)
    (ha : PySem.W.findIn K (.ref C) "__class__" = some (some (.builtin "object.__class__"))) (hn : PySem.W.specialIn K (.builtin "object.__class__") "__get__" = some (some (.builtin "getset_descriptor.__get__"))) (ht : PySem.W.takesIn K (.builtin "object.__class__") = some true) (hm : PySem.W.mroIn K C (.type "object") = some true)
    (h : ClsL K r cs) : ClsL K (x :: r) (C :: cs) := ⟨C, cs, rfl, ⟨ns, kp, exc, ty, ⟨hg, hk, hs, hd, ha, hn, ht, hm⟩⟩, h⟩
theorem ClsL.get {K : PySem.W.Frag} : ∀ {r : List Str} {cs : List Addr} {x : Str} {i : Nat}, ClsL K r cs → ixIn x r = some i → One K x ((cs[i]?).getD 0) ∧ i < cs.length
  | [], cs, x, i, _, e => by simp [ixIn] at e
  | y :: r, cs, x, i, ⟨C, r', h1, h2, h3⟩, e => by
    subst h1
    unfold ixIn at e
    split at e
    · rename_i z
      cases e
      subst z
      exact ⟨h2, by simp⟩
    · obtain ⟨j, e1, rfl⟩ := map_some e
      obtain ⟨g1, g2⟩ := ClsL.get h3 e1
      exact ⟨by simpa using g1, by simpa using g2⟩
theorem ClsL.at {K : PySem.W.Frag} : ∀ {r : List Str} {cs : List Addr} {i : Nat}, ClsL K r cs → i < cs.length → ∃ x, One K x ((cs[i]?).getD 0)
  | [], cs, i, h, e => by
    have h' : cs = [] := h
    subst h'
    simp at e
  | y :: r, cs, i, ⟨C, r', h1, h2, h3⟩, e => by
    subst h1
    cases i with
    | zero => exact ⟨y, h2⟩
    | succ i =>
      obtain ⟨x, g⟩ := ClsL.at (i := i) h3 (by simpa using e)
      exact ⟨x, by simpa using g⟩
def RowF (K : PySem.W.Frag) (C : Addr) : List Addr → List Bool → Prop
  | [], r => r = []
  | D :: ds, bs => ∃ b r, bs = b :: r ∧ PySem.W.subIn K (.ref C) (.ref D) = some b ∧ RowF K C ds r
theorem rowF_nil {K : PySem.W.Frag} {C : Addr} : RowF K C [] [] := rfl
theorem rowF_cons {K : PySem.W.Frag} {C D : Addr} {ds : List Addr} {b : Bool} {bs : List Bool} (h : PySem.W.subIn K (.ref C) (.ref D) = some b) (r : RowF K C ds bs) : RowF K C (D :: ds) (b :: bs) := ⟨b, bs, rfl, h, r⟩
def MatF (K : PySem.W.Frag) (all : List Addr) : List Addr → List (List Bool) → Prop
  | [], ms => ms = []
  | C :: r, ms => ∃ row ms', ms = row :: ms' ∧ RowF K C all row ∧ MatF K all r ms'
theorem matF_nil {K : PySem.W.Frag} {all : List Addr} : MatF K all [] [] := rfl
theorem matF_cons {K : PySem.W.Frag} {all r : List Addr} {C : Addr} {row : List Bool} {ms : List (List Bool)} (h : RowF K C all row) (g : MatF K all r ms) : MatF K all (C :: r) (row :: ms) := ⟨row, ms, rfl, h, g⟩
theorem RowF.get {K : PySem.W.Frag} {C : Addr} : ∀ {ds : List Addr} {bs : List Bool} {j : Nat} {b : Bool}, RowF K C ds bs → bs[j]? = some b → PySem.W.subIn K (.ref C) (.ref ((ds[j]?).getD 0)) = some b ∧ j < ds.length
  | [], bs, j, b, h, e => by
    have h' : bs = [] := h
    subst h'
    simp at e
  | D :: ds, bs, 0, b, ⟨b', r, h1, h2, h3⟩, e => by
    subst h1
    cases e
    exact ⟨h2, by simp⟩
  | D :: ds, bs, j + 1, b, ⟨b', r, h1, h2, h3⟩, e => by
    subst h1
    obtain ⟨g1, g2⟩ := RowF.get (j := j) (b := b) h3 (by simpa using e)
    exact ⟨by simpa using g1, by simpa using g2⟩
theorem MatF.get {K : PySem.W.Frag} {all : List Addr} : ∀ {r : List Addr} {ms : List (List Bool)} {i j : Nat} {b : Bool}, MatF K all r ms → (ms[i]?).bind (fun r => r[j]?) = some b → PySem.W.subIn K (.ref ((r[i]?).getD 0)) (.ref ((all[j]?).getD 0)) = some b ∧ i < r.length ∧ j < all.length
  | [], ms, i, j, b, h, e => by
    have h' : ms = [] := h
    subst h'
    simp at e
  | C :: r, ms, 0, j, b, ⟨row, ms', h1, h2, h3⟩, e => by
    subst h1
    obtain ⟨g1, g2⟩ := h2.get (by simpa using e)
    exact ⟨g1, by simp, g2⟩
  | C :: r, ms, i + 1, j, b, ⟨row, ms', h1, h2, h3⟩, e => by
    subst h1
    obtain ⟨g1, g2, g3⟩ := MatF.get (i := i) (j := j) (b := b) h3 (by simpa using e)
    exact ⟨by simpa using g1, by simpa using g2, g3⟩
theorem kit_ref {K : PySem.W.Frag} {C D : Addr} {b : Bool} (hd : PySem.W.hasDictIn K D = true) (ht : PySem.W.typeIn K (.ref D) = some (.type "type")) (hs : PySem.W.subIn K (.ref C) (.ref D) = some b) (hcd : C = D → b = true) : PySem.W.kitOne K (.ref C) (.ref D) = some b := by
  unfold PySem.W.kitOne
  by_cases e : C = D
  · subst e
    rw [if_pos (by simp), hcd rfl]
  · rw [if_neg (by simpa using e)]
    obtain ⟨cd, hc, _⟩ := PySem.W.any_some hd
    have e2 : ((PySem.W.clsIn K D).isSome && PySem.W.typeIn K (.ref D) == some (.type "type")) = true := by
      rw [hc, ht]
      rfl
    show (if ((PySem.W.clsIn K D).isSome && PySem.W.typeIn K (.ref D) == some (.type "type")) = true then PySem.W.subIn K (.ref C) (.ref D) else none) = some b
    rw [if_pos e2]
    exact hs
section
variable {P : Program} {w : World} {K : PySem.W.Frag} {mg : Str → Option Value} {base h : Heap} {ds : List Dq} {cls : List Str} {cons : List (Str × D)} {kinds : List (Str × List D)} {ras : List Nat} {anc : List (List Bool)} {fs : List (Addr × FuncData)} {p0 : Addr × FuncData} {cs : List Addr}
theorem clsF_of (hC : ClsL K cls cs) (hM : MatF K cs cs anc) (hr : ras.all (fun i => decide (i < cls.length)) = true) : ClsF K (nmOf ds cls cons kinds ras) anc cs where
  ns := fun x i hx => let ⟨o, _⟩ := hC.get hx; ⟨o.ns, o.kp⟩
  ras := fun i hi => by
    have hl : ∀ {r : List Str} {cs : List Addr}, ClsL K r cs → r.length = cs.length := fun {r} => by
      induction r with
      | nil =>
        intro cs h
        have h' : cs = [] := h
        subst h'
        rfl
      | cons y r ih =>
        rintro cs ⟨C, r', h1, _, h3⟩
        subst h1
        rw [List.length_cons, List.length_cons, ih h3]
    have := List.all_eq_true.mp hr i hi
    have hlt : i < cls.length := by simpa using this
    obtain ⟨x, o⟩ := hC.at (by rw [← hl hC]; exact hlt)
    exact ⟨o.exc, o.ex.hs, o.ty⟩
  anc := fun i j b e => by
    obtain ⟨g1, g2, g3⟩ := hM.get e
    obtain ⟨x, o⟩ := hC.at g3
    exact PySem.W.exm_ref o.ex.hs o.ex.hd o.ty g1
/-- the kinds by plain tables: the row of each class, whether it is below those that the def asks -/
def kindB (cls : List Str) (anc : List (List Bool)) (tbl : List D) (d : Kd) : Bool :=
  (List.range tbl.length).all fun i => decide (i < cls.length) && match tbl[i]? with
    | some (.str word) => (match (d.c1 ++ d.c2).mapM (fun x => (ixIn x cls).bind fun j => (anc[i]?).bind fun r => r[j]?), d.tp.mapM (fun x => (ixIn x cls).bind fun j => (anc[i]?).bind fun r => r[j]?) with
      | some bs, some tbs => decide (wordOf d bs tbs = some word)
      | _, _ => false) && ((d.c1 ++ d.c2 ++ d.tp).all fun x => match ixIn x cls with
        | some j => decide (i = j → ((anc[i]?).bind fun r => r[j]?) = some true)
        | none => false)
    | _ => false
theorem mapM_on {α β : Type} {f g : α → Option β} : ∀ {l : List α} {r : List β}, (∀ a ∈ l, ∀ b, f a = some b → g a = some b) → l.mapM f = some r → l.mapM g = some r
  | [], r, _, e => e
  | a :: l, r, h, e => by
    obtain ⟨b, r', h1, h2, rfl⟩ := mapM_cons_some e
    rw [List.mapM_cons, h a List.mem_cons_self b h1, mapM_on (fun x hx => h x (List.mem_cons_of_mem _ hx)) h2]
    rfl
theorem hlC {K : PySem.W.Frag} : ∀ {r : List Str} {cs : List Addr}, ClsL K r cs → r.length = cs.length
  | [], cs, h => by
    have h' : cs = [] := h
    subst h'
    rfl
  | y :: r, cs, ⟨C, r', h1, _, h3⟩ => by
    subst h1
    rw [List.length_cons, List.length_cons, hlC h3]
theorem ixIn_lt {x : Str} : ∀ {l : List Str} {i : Nat}, ixIn x l = some i → i < l.length := fun {l i} h => (List.getElem?_eq_some_iff.mp (ixIn_get h)).1
/-- what the def of the kinds must be, by its text alone -/
structure KdTxt (ds : List Dq) (cls : List Str) (anc : List (List Bool)) (f : Str) (tbl : List D) (j : Nat) (dq : Dq) (d : Kd) : Prop where
  at_ : ds[j]? = some dq
  x : dq.x = f
  io : dq.io = false
  N : dq.N = [("error" : Str), ("names" : Str), ("found" : Str)]
  np : dq.np = 1
  ix : fnIx f (ds.map fun d => (d.x, d.io)) = some (j, false)
  lc : (lcl (defScope dq.st) "error" && lcl (defScope dq.st) "names" && lcl (defScope dq.st) "found") = true
  gl : (gbl (defScope dq.st) "isinstance" && (d.c1 ++ d.c2 ++ d.tp).all (fun x => gbl (defScope dq.st) x && (ixIn x cls).isSome)) = true
  sh : kdShape (defBody dq.st) = some d
  len : d.words.length < 100 ∧ d.c1.length + d.c2.length < 100
  kit : kindB cls anc tbl d = true
theorem kindOk_of (KX : K.In h) (G : h.Ns mainGlobals mg) (hF : DefsF K ds fs) (hok : ds.all Dq.ok = true) (hC : ClsL K cls cs) (hM : MatF K cs cs anc) (hnd : cs.Nodup) (hisn : PySem.W.nsIn K mainGlobals "isinstance" = some none) {f : Str} {tbl : List D} {j : Nat} {dq : Dq} {d : Kd} (T : KdTxt ds cls anc f tbl j dq d) :
    KindOk (wdOf P w K mg base (nmOf ds cls cons kinds ras) ds anc fs p0 cs) f tbl j dq.st d := by
  obtain ⟨fa, fd, g1, g2, g3, g4⟩ := hF.get T.at_
  have sc := (Dq.sc (List.all_eq_true.mp hok dq (List.mem_of_getElem? T.at_))).1
  rw [T.N, T.np] at sc
  have q1 : (wdOf P w K mg base (nmOf ds cls cons kinds ras) ds anc fs p0 cs).fa j = fa := by simp [wdOf, g1]
  have q2 : (wdOf P w K mg base (nmOf ds cls cons kinds ras) ds anc fs p0 cs).fd j = fd := by simp [wdOf, g1]
  have lc := T.lc
  have gl := T.gl
  simp only [Bool.and_eq_true] at lc gl
  refine ⟨T.ix, ?_, ?_, sc, ⟨lc.1.1, lc.1.2, lc.2⟩, gl, PySem.W.mg_none_of KX G hisn, T.sh, T.len, fun i x e => ?_⟩
  · rw [q1, q2, ← T.x]
    exact g3
  · have e1 := T.at_
    simp only [wdOf, e1, Option.map_some, Option.getD_some]
    rw [T.N, T.np]
    rfl
  · have hi : i < tbl.length := (List.getElem?_eq_some_iff.mp e).1
    have hk := List.all_eq_true.mp T.kit i (List.mem_range.mpr hi)
    rw [e] at hk
    simp only [Bool.and_eq_true, decide_eq_true_eq] at hk
    obtain ⟨hic, hk⟩ := hk
    cases x with
    | str word =>
      simp only [Bool.and_eq_true] at hk
      obtain ⟨hk1, hk2⟩ := hk
      cases hm : (d.c1 ++ d.c2).mapM (fun x => (ixIn x cls).bind fun j => (anc[i]?).bind fun r => r[j]?) with
      | none =>
        rw [hm] at hk1
        cases hk1
      | some bs =>
       cases hm2 : d.tp.mapM (fun x => (ixIn x cls).bind fun j => (anc[i]?).bind fun r => r[j]?) with
       | none =>
        rw [hm, hm2] at hk1
        cases hk1
       | some tbs =>
        rw [hm, hm2] at hk1
        obtain ⟨xi, oi⟩ := hC.at (i := i) (by rw [← hlC hC]; exact hic)
        have key : ∀ a ∈ d.c1 ++ d.c2 ++ d.tp, ∀ b, ((ixIn a cls).bind fun j => (anc[i]?).bind fun r => r[j]?) = some b → ((ixIn a (nmOf ds cls cons kinds ras).cls).bind fun j => PySem.W.kitOne K (.ref ((cs[i]?).getD 0)) (.ref ((cs[j]?).getD 0))) = some b := fun a ha b hb => by
          obtain ⟨jj, e1, e2⟩ := Option.bind_eq_some_iff.mp hb
          obtain ⟨m1, m2, m3⟩ := hM.get (i := i) (j := jj) e2
          obtain ⟨xj, oj⟩ := hC.at m3
          have hd := List.all_eq_true.mp hk2 a ha
          rw [e1] at hd
          have hd' := of_decide_eq_true hd
          show ((ixIn a cls).bind _) = some b
          rw [e1, Option.bind_some]
          refine kit_ref oj.ex.hd oj.ty m1 fun hcd => ?_
          have : i = jj := by
            have a1 : cs[i]? = some cs[i] := List.getElem?_eq_getElem m2
            have a2 : cs[jj]? = some cs[jj] := List.getElem?_eq_getElem m3
            rw [a1, a2] at hcd
            exact (List.getElem_inj hnd).mp hcd
          have h2 := hd' this
          rw [e2] at h2
          exact Option.some.inj h2
        exact ⟨word, bs, tbs, rfl, oi.ex, mapM_on (fun a ha => key a (List.mem_append_left _ ha)) hm, mapM_on (fun a ha => key a (List.mem_append_right _ ha)) hm2, of_decide_eq_true hk1⟩
    | _ => cases hk
/-- THE HEAD of a law -/
theorem head_pi (KX : K.In h) (G : h.Ns mainGlobals mg) {fa : Addr} (hmg : mg "law" = some (.ref fa)) (hD : ∃ fs, DefsF K ds fs) (hCM : ∃ cs, ClsL K cls cs ∧ MatF K cs cs anc ∧ cs.Nodup) (hok : ds.all Dq.ok = true) (hr : ras.all (fun i => decide (i < cls.length)) = true)
    (hcon : ∀ x d, cons.lookup x = some d → ∃ u v, PySem.W.nsIn K mainGlobals x = some (some u) ∧ RelV v u ∧ ∀ F, Rp K F d v) (hbl : bltNames.all (fun x => (fnIx x (ds.map fun d => (d.x, d.io))).isNone) = true)
    (hblt : ∀ x ∈ bltNames, PySem.W.nsIn K mainGlobals x = some none)
    (hkind : ∀ f tbl, kinds.lookup f = some tbl → ∃ j dq d, KdTxt ds cls anc f tbl j dq d) {li : Nat} {dl : Dq} (hl : ds[li]? = some dl) (hlx : dl.x = ("law" : Str)) (hlN : dl.N.take dl.np = [("script" : Str)]) (hli : fnIx "law" (ds.map fun d => (d.x, d.io)) = some (li, false))
    (hlb : ∀ (kV doc pm : Value) (an : Option Addr) (cdv ct u : Value), bindArgs (PySem.W.fnOf "law" "law" (defArgs dl.st) (defBody dl.st) (defScope dl.st) .none kV doc pm an cdv ct) ⟨[u], []⟩ = pure [(("script" : Str), u)]) (k : Nat) :
    ∃ fd : FuncData, (∀ (s : Shared) (u : Value), BindsTo s fd ⟨[u], []⟩ [(("script" : Str), u)]) ∧ ∀ base : Heap, K.In base → base.Ns mainGlobals mg →
      ∃ U : Wd, U.pg = mkPg (nmOf ds cls cons kinds ras) ds anc ∧ U.K = K ∧ U.ps li = [("script" : Str)] ∧ FnG P w K mg base k fa fd [("script" : Str)] (spI U k li) := by
  obtain ⟨fs, hF⟩ := hD
  obtain ⟨cs, hC, hM, hnd⟩ := hCM
  obtain ⟨f, fd, g1, g2, g3, g4⟩ := hF.get hl
  rw [hlx] at g2 g3
  have efa : fa = f := by
    have := hmg.symm.trans (PySem.W.mg_of KX G g2)
    cases this
    rfl
  subst efa
  obtain ⟨oc, od, kV, doc, pm, an, cd, ct, osl, efd, _, _⟩ := g3.ex
  refine ⟨fd, fun s u => .of_eq (by rw [efd]; exact hlb kV doc pm an cd ct u), fun base _ _ => ⟨wdOf P w K mg base (nmOf ds cls cons kinds ras) ds anc fs (fa, fd) cs, rfl, rfl, ?_, ?_⟩⟩
  · simp [wdOf, hl, hlN]
  · have z := law_fn (P := P) (w := w) (base := base) (p0 := (fa, fd)) KX G hF (clsF_of hC hM hr) hok hcon (fun x hx _ _ _ => hblt x hx) (fun f tbl e => by
      obtain ⟨j, dq, d, T⟩ := hkind f tbl e
      exact ⟨j, dq.st, d, kindOk_of KX G hF hok hC hM hnd (hblt _ (by decide)) T⟩) hli k
    have q1 : (wdOf P w K mg base (nmOf ds cls cons kinds ras) ds anc fs (fa, fd) cs).fa li = fa := by simp [wdOf, g1]
    have q2 : (wdOf P w K mg base (nmOf ds cls cons kinds ras) ds anc fs (fa, fd) cs).fd li = fd := by simp [wdOf, g1]
    have q3 : (wdOf P w K mg base (nmOf ds cls cons kinds ras) ds anc fs (fa, fd) cs).ps li = [("script" : Str)] := by simp [wdOf, hl, hlN]
    simp only [q1, q2, q3] at z
    exact z
end
end PI
namespace PI
open PySem L2 PyProof.Rows
theorem con_int {K : PySem.W.Frag} {x : Str} {n : Int} {t : Tok} (h : PySem.W.nsIn K mainGlobals x = some (some (.int n t))) : ∃ u v, PySem.W.nsIn K mainGlobals x = some (some u) ∧ RelV v u ∧ ∀ F, Rp K F (.int n) v := ⟨_, .int n, h, ⟨t, rfl⟩, fun F => rfl⟩
theorem con_str {K : PySem.W.Frag} {x y : Str} {t : Tok} (h : PySem.W.nsIn K mainGlobals x = some (some (.str y t))) : ∃ u v, PySem.W.nsIn K mainGlobals x = some (some u) ∧ RelV v u ∧ ∀ F, Rp K F (.str y) v := ⟨_, .str y, h, ⟨t, rfl⟩, fun F => rfl⟩
end PI
/-! Weakest preconditions over the small language: rules, one a construct. -/
namespace PI
open PySem
abbrev ER := Nat → List D → Prop
def W {α : Type} (x : Out (α × Rho)) (Q : α → Rho → Prop) (E : ER) : Prop := match x with
  | .ok p => Q p.1 p.2
  | .err c pl _ => E c pl
  | .bad => False
def WI (x : Out (List D × List Nat × Rho)) (Q : List D → List Nat → Rho → Prop) (E : ER) : Prop := match x with
  | .ok p => Q p.1 p.2.1 p.2.2
  | .err c pl _ => E c pl
  | .bad => False
def WS (x : Out Fl) (Q : Fl → Prop) (E : ER) : Prop := match x with
  | .ok p => Q p
  | .err c pl _ => E c pl
  | .bad => False
/-- of a call -/
def Cl (x : COut) (Q : D → Bool → D → Prop) (E : ER) : Prop := match x with
  | .ok d fr io => Q d fr io
  | .err c pl => E c pl
  | .bad => False
def noE : ER := fun _ _ => False
section
variable {α : Type} {Γ : Gm} {ρ ρ1 : Rho} {E : ER} {Q : R → Rho → Prop}
theorem W.bind {β : Type} {x : Out (α × Rho)} {f : α × Rho → Out (β × Rho)} {Q : β → Rho → Prop} (h : W x (fun a ρ => W (f (a, ρ)) Q E) E) : W (x >>= f) Q E := by
  cases x <;> exact h
theorem W.mono {x : Out (α × Rho)} {Q Q' : α → Rho → Prop} (h : W x Q E) (m : ∀ a ρ, Q a ρ → Q' a ρ) : W x Q' E := by
  cases x with
  | ok p => exact m _ _ h
  | err c pl r => exact h
  | bad => exact h
theorem WI.mono {x : Out (List D × List Nat × Rho)} {Q Q' : List D → List Nat → Rho → Prop} (h : WI x Q E) (m : ∀ l rs ρ, Q l rs ρ → Q' l rs ρ) : WI x Q' E := by
  cases x with
  | ok p => exact m _ _ _ h
  | err c pl r => exact h
  | bad => exact h
theorem WS.mono {x : Out Fl} {Q Q' : Fl → Prop} (h : WS x Q E) (m : ∀ f, Q f → Q' f) : WS x Q' E := by
  cases x with
  | ok p => exact m _ h
  | err c pl r => exact h
  | bad => exact h
theorem W.bindI {x : Out (α × Rho)} {f : α × Rho → Out (List D × List Nat × Rho)} {Q : List D → List Nat → Rho → Prop} (h : W x (fun a ρ => WI (f (a, ρ)) Q E) E) : WI (x >>= f) Q E := by
  cases x <;> exact h
theorem W.bindS {x : Out (α × Rho)} {f : α × Rho → Out Fl} {Q : Fl → Prop} (h : W x (fun a ρ => WS (f (a, ρ)) Q E) E) : WS (x >>= f) Q E := by
  cases x <;> exact h
theorem WI.bind {x : Out (List D × List Nat × Rho)} {β : Type} {f : List D × List Nat × Rho → Out (β × Rho)} {Q : β → Rho → Prop} (h : WI x (fun l rs ρ => W (f (l, rs, ρ)) Q E) E) : W (x >>= f) Q E := by
  cases x <;> exact h
theorem WI.bindS {x : Out (List D × List Nat × Rho)} {f : List D × List Nat × Rho → Out Fl} {Q : Fl → Prop} (h : WI x (fun l rs ρ => WS (f (l, rs, ρ)) Q E) E) : WS (x >>= f) Q E := by
  cases x <;> exact h
theorem WS.bind {x : Out Fl} {f : Fl → Out Fl} {Q : Fl → Prop} (h : WS x (fun a => WS (f a) Q E) E) : WS (x >>= f) Q E := by
  cases x <;> exact h
theorem W.ofO {β : Type} {a : α} {o : Option α} {f : α → Out (β × Rho)} {Q : β → Rho → Prop} (e : o = some a) (h : W (f a) Q E) : W (ofO o >>= f) Q E := by
  subst e
  exact h
theorem WI.ofO {a : α} {o : Option α} {f : α → Out (List D × List Nat × Rho)} {Q : List D → List Nat → Rho → Prop} (e : o = some a) (h : WI (f a) Q E) : WI (ofO o >>= f) Q E := by
  subst e
  exact h
theorem WS.ofO {a : α} {o : Option α} {f : α → Out Fl} {Q : Fl → Prop} (e : o = some a) (h : WS (f a) Q E) : WS (ofO o >>= f) Q E := by
  subst e
  exact h

/-! ### questions -/
def Op2 (o : Operator) (x y : Option D) (K : R → Prop) : Prop := ∃ a b z, x = some a ∧ y = some b ∧ opD o a b = some z ∧ K z
def Cm2 (o : CmpOp) (x y : Option D) (K : Bool → Prop) : Prop := ∃ a b z, x = some a ∧ y = some b ∧ cmpD o a b = some z ∧ K z
def Tru (x : Option D) (K : Bool → Prop) : Prop := ∃ a z, x = some a ∧ truthD a = some z ∧ K z
def Iff3 (z : Bool) (P R : Prop) : Prop := (z = true → P) ∧ (z = false → R)
@[reducible] def frR : Bool → D → R
  | true, d => .fre d
  | false, d => .dat d
/-- a place set -/
def stK : Nat → Sl → Rho → (Rho → Prop) → Prop
  | 0, s, x :: r, k => match x with
    | .no => k (s :: r)
    | .val _ => k (s :: r)
    | .own 0 _ => k (s :: r)
    | _ => False
  | i + 1, s, x :: r, k => stK i s r fun r' => k (x :: r')
  | _, _, [], _ => False
def setK : Nat → Sl → Rho → (Rho → Prop) → Prop
  | 0, s, _ :: r, k => k (s :: r)
  | i + 1, s, x :: r, k => setK i s r fun r' => k (x :: r')
  | _, _, [], k => k []
theorem setK_eq : ∀ {i : Nat} {s : Sl} {ρ : Rho} {k : Rho → Prop}, setK i s ρ k → k (ρ.set i s)
  | 0, s, x :: r, k, h => h
  | i + 1, s, x :: r, k, h => setK_eq (k := fun r' => k (x :: r')) h
  | 0, _, [], _, h => h
  | _ + 1, _, [], _, h => h
theorem stK_eq : ∀ {i : Nat} {s : Sl} {ρ : Rho} {k : Rho → Prop}, stK i s ρ k → ∃ ρ', stVar i s ρ = some ρ' ∧ k ρ'
  | 0, s, .no :: r, k, h => ⟨_, rfl, h⟩
  | 0, s, .val _ :: r, k, h => ⟨_, rfl, h⟩
  | 0, s, .own 0 _ :: r, k, h => ⟨_, rfl, h⟩
  | 0, s, .own (_ + 1) _ :: r, k, h => h.elim
  | 0, s, .lent _ :: r, k, h => h.elim
  | i + 1, s, x :: r, k, h => by
    obtain ⟨ρ', e, q⟩ := stK_eq (k := fun r' => k (x :: r')) h
    refine ⟨x :: ρ', ?_, q⟩
    unfold stVar at *
    rw [List.getElem?_cons_succ]
    revert e
    split <;> intro e <;> simp_all
  | 0, _, [], _, h => h.elim
  | _ + 1, _, [], _, h => h.elim
/-- given away -/
def Giv (r : R) (ρ : Rho) (K : D → Rho → Prop) : Prop := ∃ d ρ', give ρ r = some (d, ρ') ∧ K d ρ'
theorem giv_dat {d : D} {K : D → Rho → Prop} (h : K d ρ) : Giv (.dat d) ρ K := ⟨_, _, rfl, h⟩
theorem giv_fre {d : D} {K : D → Rho → Prop} (h : K d ρ) : Giv (.fre d) ρ K := ⟨_, _, rfl, h⟩
theorem giv_own {i : Nat} {d : D} {K : D → Rho → Prop} (e : ρ[i]? = some (.own 0 d)) (h : setK i (.val d) ρ (K d)) : Giv (.pl i) ρ K := by
  refine ⟨_, _, ?_, setK_eq h⟩
  simp [give, e]
theorem giv_val {i : Nat} {d : D} {K : D → Rho → Prop} (e : ρ[i]? = some (.val d)) (h : K d ρ) : Giv (.pl i) ρ K := by
  refine ⟨_, _, ?_, h⟩
  simp [give, e]

/-! ### expressions -/
theorem W_var {i : Nat} {r : R} (e : rdVar i ρ = some r) (h : Q r ρ) : W (ev Γ (.var i) ρ) Q E := by
  rw [ev, e]
  exact h
theorem W_con {d : D} (h : Q (.dat d) ρ) : W (ev Γ (.con d) ρ) Q E := by
  rw [ev]
  exact h
theorem W_op {o : Operator} {a b : PI.E} (h : W (ev Γ a ρ) (fun r ρ1 => W (ev Γ b ρ1) (fun q ρ2 => Op2 o (fetch ρ2 r) (fetch ρ2 q) fun z => Q z ρ2) E) E) : W (ev Γ (.op o a b) ρ) Q E := by
  rw [ev]
  refine (h.mono fun r ρ1 h => ?_).bind
  refine (h.mono fun q ρ2 h => ?_).bind
  obtain ⟨x, y, z, e1, e2, e3, k⟩ := h
  exact .ofO e1 (.ofO e2 (.ofO e3 k))
theorem W_un {o : UnaryOp} {a : PI.E} (h : W (ev Γ a ρ) (fun r ρ1 => ∃ x z, fetch ρ1 r = some x ∧ unD o x = some z ∧ Q (.dat z) ρ1) E) : W (ev Γ (.un o a) ρ) Q E := by
  rw [ev]
  refine (h.mono fun r ρ1 h => ?_).bind
  obtain ⟨x, z, e1, e2, k⟩ := h
  exact .ofO e1 (.ofO e2 k)
theorem W_cmp {o : CmpOp} {a b : PI.E} (h : W (ev Γ a ρ) (fun r ρ1 => W (ev Γ b ρ1) (fun q ρ2 => Cm2 o (fetch ρ2 r) (fetch ρ2 q) fun z => Q (.dat (.bl z)) ρ2) E) E) : W (ev Γ (.cmp o a b) ρ) Q E := by
  rw [ev]
  refine (h.mono fun r ρ1 h => ?_).bind
  refine (h.mono fun q ρ2 h => ?_).bind
  obtain ⟨x, y, z, e1, e2, e3, k⟩ := h
  exact .ofO e1 (.ofO e2 (.ofO e3 k))
def SameR (a b : Rho) (P : Prop) : Prop := a = b ∧ P
theorem sameR {P : Prop} (h : P) : SameR ρ ρ P := ⟨rfl, h⟩
/-- x o y o' z, the last one changing nothing -/
theorem W_chain {o o' : CmpOp} {a b c : PI.E} (h : W (ev Γ a ρ) (fun r ρ1 => W (ev Γ b ρ1) (fun q ρ2 => Cm2 o (fetch ρ2 r) (fetch ρ2 q) fun z =>
    W (ev Γ c ρ2) (fun q' ρ3 => SameR ρ3 ρ2 (Cm2 o' (fetch ρ2 q) (fetch ρ2 q') fun z' => Q (.dat (.bl (z && z'))) ρ2)) noE) E) E) : W (ev Γ (.chain o o' a b c) ρ) Q E := by
  rw [ev]
  refine (h.mono fun r ρ1 h => ?_).bind
  refine (h.mono fun q ρ2 h => ?_).bind
  obtain ⟨x, y, z, e1, e2, e3, k⟩ := h
  refine .ofO e1 (.ofO e2 (.ofO e3 ?_))
  cases hc : ev Γ c ρ2 with
  | err c pl r => rw [hc] at k; exact k.elim
  | bad => rw [hc] at k; exact k.elim
  | ok p =>
    rw [hc] at k
    obtain ⟨rfl, x', y', z', f1, f2, f3, k⟩ := k
    cases z with
    | false => exact k
    | true => exact .ofO f1 (.ofO f2 (.ofO f3 k))
/-- x o y o' z o'' u, the last two changing nothing -/
theorem W_chain3 {o o' o'' : CmpOp} {a b c d : PI.E} (h : W (ev Γ a ρ) (fun r ρ1 => W (ev Γ b ρ1) (fun q ρ2 => Cm2 o (fetch ρ2 r) (fetch ρ2 q) fun z =>
    W (ev Γ c ρ2) (fun q' ρ3 => SameR ρ3 ρ2 (Cm2 o' (fetch ρ2 q) (fetch ρ2 q') fun z' =>
      W (ev Γ d ρ2) (fun q'' ρ4 => SameR ρ4 ρ2 (Cm2 o'' (fetch ρ2 q') (fetch ρ2 q'') fun z'' => Q (.dat (.bl (z && z' && z''))) ρ2)) noE)) noE) E) E) : W (ev Γ (.chain3 o o' o'' a b c d) ρ) Q E := by
  rw [ev]
  refine (h.mono fun r ρ1 h => ?_).bind
  refine (h.mono fun q ρ2 h => ?_).bind
  obtain ⟨x, y, z, e1, e2, e3, k⟩ := h
  refine .ofO e1 (.ofO e2 (.ofO e3 ?_))
  cases hc : ev Γ c ρ2 with
  | err c pl r => rw [hc] at k; exact k.elim
  | bad => rw [hc] at k; exact k.elim
  | ok p =>
    rw [hc] at k
    obtain ⟨e0, x', y', z', f1, f2, f3, k⟩ := k
    cases hd : ev Γ d ρ2 with
    | err c pl r => rw [hd] at k; exact k.elim
    | bad => rw [hd] at k; exact k.elim
    | ok p' =>
      rw [hd] at k
      obtain ⟨e4, x2, y2, z2, g1, g2, g3, k⟩ := k
      obtain ⟨q', ρ3⟩ := p
      obtain ⟨q'', ρ4⟩ := p'
      obtain rfl : ρ3 = ρ2 := e0
      obtain rfl : ρ4 = ρ3 := e4
      cases z with
      | false => exact k
      | true =>
        refine .ofO f1 (.ofO f2 (.ofO f3 ?_))
        cases z' with
        | false => exact k
        | true =>
          simp only [if_true, hd, bind_ok]
          exact .ofO g1 (.ofO g2 (.ofO g3 k))
theorem W_and {a b : PI.E} (h : W (ev Γ a ρ) (fun r ρ1 => Tru (fetch ρ1 r) fun z => Iff3 z (W (ev Γ b ρ1) Q E) (Q r ρ1)) E) : W (ev Γ (.and a b) ρ) Q E := by
  rw [ev]
  refine (h.mono fun r ρ1 h => ?_).bind
  obtain ⟨x, z, e1, e2, k⟩ := h
  refine .ofO e1 (.ofO e2 ?_)
  cases z
  · exact k.2 rfl
  · exact k.1 rfl
theorem W_or {a b : PI.E} (h : W (ev Γ a ρ) (fun r ρ1 => Tru (fetch ρ1 r) fun z => Iff3 z (Q r ρ1) (W (ev Γ b ρ1) Q E)) E) : W (ev Γ (.or a b) ρ) Q E := by
  rw [ev]
  refine (h.mono fun r ρ1 h => ?_).bind
  obtain ⟨x, z, e1, e2, k⟩ := h
  refine .ofO e1 (.ofO e2 ?_)
  cases z
  · exact k.2 rfl
  · exact k.1 rfl
def BoolIs (r : R) (K : Bool → Prop) : Prop := ∃ z, r = .dat (.bl z) ∧ K z
/-- .. of truth values -/
theorem W_andB {a b : PI.E} {y : Bool} (h : W (ev Γ a ρ) (fun r ρ1 => BoolIs r fun z => (z = true → W (ev Γ b ρ1) (fun q ρ2 => SameR ρ2 ρ1 (BoolIs q fun z' => z' = y)) noE) ∧ Q (.dat (.bl (z && y))) ρ1) E) : W (ev Γ (.and a b) ρ) Q E := by
  refine W_and (h.mono fun r ρ1 h => ?_)
  obtain ⟨z, rfl, h1, h2⟩ := h
  refine ⟨_, z, rfl, rfl, fun e => ?_, fun e => ?_⟩
  · subst e
    have h3 := h1 rfl
    cases hb : ev Γ b ρ1 with
    | err c pl r => rw [hb] at h3; exact h3.elim
    | bad => rw [hb] at h3; exact h3.elim
    | ok p =>
      rw [hb] at h3
      obtain ⟨e1, z', e2, rfl⟩ := h3
      show Q p.1 p.2
      rw [e1, e2]
      exact h2
  · subst e
    exact h2
theorem W_orB {a b : PI.E} {y : Bool} (h : W (ev Γ a ρ) (fun r ρ1 => BoolIs r fun z => (z = false → W (ev Γ b ρ1) (fun q ρ2 => SameR ρ2 ρ1 (BoolIs q fun z' => z' = y)) noE) ∧ Q (.dat (.bl (z || y))) ρ1) E) : W (ev Γ (.or a b) ρ) Q E := by
  refine W_or (h.mono fun r ρ1 h => ?_)
  obtain ⟨z, rfl, h1, h2⟩ := h
  refine ⟨_, z, rfl, rfl, fun e => ?_, fun e => ?_⟩
  · subst e
    exact h2
  · subst e
    have h3 := h1 rfl
    cases hb : ev Γ b ρ1 with
    | err c pl r => rw [hb] at h3; exact h3.elim
    | bad => rw [hb] at h3; exact h3.elim
    | ok p =>
      rw [hb] at h3
      obtain ⟨e1, z', e2, rfl⟩ := h3
      show Q p.1 p.2
      rw [e1, e2]
      exact h2
theorem W_tr {a : PI.E} {Q : Bool → Rho → Prop} (h : W (ev Γ a ρ) (fun r ρ1 => Tru (fetch ρ1 r) fun z => Q z ρ1) E) : W (trO (ev Γ a ρ)) Q E := by
  unfold trO
  refine (h.mono fun r ρ1 h => ?_).bind
  obtain ⟨x, z, e1, e2, k⟩ := h
  exact .ofO e1 (.ofO e2 k)
theorem W_not {a : PI.E} (h : W (ev Γ a ρ) (fun r ρ1 => Tru (fetch ρ1 r) fun z => Q (.dat (.bl (!z))) ρ1) E) : W (ev Γ (.not a) ρ) Q E := by
  rw [ev]
  exact (W_tr h).bind
theorem W_ite {c a b : PI.E} (h : W (ev Γ c ρ) (fun r ρ1 => Tru (fetch ρ1 r) fun z => Iff3 z (W (ev Γ a ρ1) Q E) (W (ev Γ b ρ1) Q E)) E) : W (ev Γ (.ite c a b) ρ) Q E := by
  rw [ev]
  refine (W.bind (W_tr (h.mono fun r ρ1 h => ?_)))
  obtain ⟨x, z, e1, e2, k⟩ := h
  refine ⟨x, z, e1, e2, ?_⟩
  cases z
  · exact k.2 rfl
  · exact k.1 rfl
theorem evs_len : ∀ {es : List PI.E} {ρ ρ' : Rho} {ds : List D}, evs Γ es ρ = .ok (ds, ρ') → ds.length = es.length
  | [], ρ, ρ', ds, h => by
    rw [evs] at h
    cases h
    rfl
  | e :: es, ρ, ρ', ds, h => by
    rw [evs] at h
    cases h1 : ev Γ e ρ with
    | err c pl r => simp [h1] at h
    | bad => simp [h1] at h
    | ok p =>
      cases hg : give p.2 p.1 with
      | none => simp [h1, hg] at h
      | some q =>
        cases h2 : evs Γ es q.2 with
        | err c pl r => simp [h1, hg, h2] at h
        | bad => simp [h1, hg, h2] at h
        | ok t =>
          simp [h1, hg, h2] at h
          have := evs_len (ρ' := t.2) (ds := t.1) h2
          rw [← h.1]
          simp [this]
theorem W_nil {Q : List D → Rho → Prop} (h : Q [] ρ) : W (evs Γ [] ρ) Q E := by
  rw [evs]
  exact h
theorem W_cons {Q : List D → Rho → Prop} {e : PI.E} {es : List PI.E} (h : W (ev Γ e ρ) (fun r ρ1 => Giv r ρ1 fun d ρ2 => W (evs Γ es ρ2) (fun ds ρ3 => Q (d :: ds) ρ3) E) E) : W (evs Γ (e :: es) ρ) Q E := by
  rw [evs]
  refine (h.mono fun r ρ1 h => ?_).bind
  obtain ⟨d, ρ', e1, k⟩ := h
  exact .ofO e1 k.bind
theorem W_rnil {Q : List R → Rho → Prop} (h : Q [] ρ) : W (evRs Γ [] ρ) Q E := by
  rw [evRs]
  exact h
theorem W_rcons {Q : List R → Rho → Prop} {e : PI.E} {es : List PI.E} (h : W (ev Γ e ρ) (fun r ρ1 => W (evRs Γ es ρ1) (fun ds ρ3 => Q (r :: ds) ρ3) E) E) : W (evRs Γ (e :: es) ρ) Q E := by
  rw [evRs]
  exact (h.mono fun r ρ1 h => h.bind).bind
theorem small_line {n : Nat} (h : decide (n ≤ 1000) = true) : n ≤ sizeLine := Nat.le_trans (of_decide_eq_true h) (by decide)
theorem W_tup {es : List PI.E} (hn : decide (es.length ≤ 1000) = true) (h : W (evs Γ es ρ) (fun ds ρ1 => Q (.dat (.tup ds)) ρ1) E) : W (ev Γ (.tup es) ρ) Q E := by
  rw [ev]
  cases he : evs Γ es ρ with
  | err c pl r => rw [he] at h; exact h
  | bad => rw [he] at h; exact h
  | ok p =>
    rw [he] at h
    have := evs_len (ρ' := p.2) (ds := p.1) he
    simp only [bind_ok]
    rw [if_pos (by rw [this]; exact small_line hn)]
    exact h
theorem W_lst {es : List PI.E} (hn : decide (es.length ≤ 1000) = true) (h : W (evs Γ es ρ) (fun ds ρ1 => Q (.fre (.lst ds)) ρ1) E) : W (ev Γ (.lst es) ρ) Q E := by
  rw [ev]
  cases he : evs Γ es ρ with
  | err c pl r => rw [he] at h; exact h
  | bad => rw [he] at h; exact h
  | ok p =>
    rw [he] at h
    have := evs_len (ρ' := p.2) (ds := p.1) he
    simp only [bind_ok]
    rw [if_pos (by rw [this]; exact small_line hn)]
    exact h
def Ixx (x i : Option D) (K : D → Prop) : Prop := ∃ a b z, x = some a ∧ i = some b ∧ ixD a b = some z ∧ K z
theorem W_ix {a i : PI.E} (h : W (ev Γ a ρ) (fun r ρ1 => W (ev Γ i ρ1) (fun q ρ2 => Ixx (fetch ρ2 r) (fetch ρ2 q) fun z => Q (.dat z) ρ2) E) E) : W (ev Γ (.ix a i) ρ) Q E := by
  rw [ev]
  refine (h.mono fun r ρ1 h => ?_).bind
  refine (h.mono fun q ρ2 h => ?_).bind
  obtain ⟨x, y, z, e1, e2, e3, k⟩ := h
  exact .ofO e1 (.ofO e2 (.ofO e3 k))
theorem W_ono {Q : Option Int → Rho → Prop} (h : Q none ρ) : W (evO Γ none ρ) Q E := by
  rw [evO]
  exact h
def IntIs (x : Option D) (K : Int → Prop) : Prop := ∃ k, x = some (.int k) ∧ K k
theorem IntIs.mk {k : Int} {K : Int → Prop} (h : K k) : IntIs (some (.int k)) K := ⟨k, rfl, h⟩
theorem W_osome {Q : Option Int → Rho → Prop} {e : PI.E} (h : W (ev Γ e ρ) (fun r ρ1 => IntIs (fetch ρ1 r) fun k => Q (some k) ρ1) E) : W (evO Γ (some e) ρ) Q E := by
  rw [evO]
  refine (h.mono fun r ρ1 h => ?_).bind
  obtain ⟨k, e1, h⟩ := h
  exact .ofO e1 (.ofO rfl h)
def Slx (x : Option D) (l h : Option Int) (K : R → Prop) : Prop := ∃ a z, x = some a ∧ slD a l h = some z ∧ K z
theorem W_sl {a : PI.E} {lo hi : Option PI.E} (h : W (ev Γ a ρ) (fun r ρ1 => W (evO Γ lo ρ1) (fun l ρ2 => W (evO Γ hi ρ2) (fun u ρ3 => Slx (fetch ρ3 r) l u fun z => Q z ρ3) E) E) E) : W (ev Γ (.sl a lo hi) ρ) Q E := by
  rw [ev]
  refine (h.mono fun r ρ1 h => ?_).bind
  refine (h.mono fun q ρ2 h => ?_).bind
  refine (h.mono fun u ρ3 h => ?_).bind
  obtain ⟨x, z, e1, e3, k⟩ := h
  exact .ofO e1 (.ofO e3 k)
theorem W_callOut {c : COut} (h : Cl c (fun d fr _ => Q (frR fr d) ρ) E) : W (callOut ρ c) Q E := by
  cases c with
  | ok d fr io =>
    cases fr <;> exact h
  | err c pl => exact h
  | bad => exact h
theorem W_call {f : Nat} {es : List PI.E} (h : W (evs Γ es ρ) (fun ds ρ1 => Cl (Γ.call f ds) (fun d fr _ => Q (frR fr d) ρ1) E) E) : W (ev Γ (.call f es) ρ) Q E := by
  rw [ev]
  exact (h.mono fun ds ρ1 h => W_callOut h).bind
theorem W_menu {fs : List Nat} {i : PI.E} {es : List PI.E} (h : W (ev Γ i ρ) (fun r ρ1 => IntIs (fetch ρ1 r) fun k => ∃ f, ((ixOf fs.length k).bind fun j => fs[j]?) = some f ∧ W (evs Γ es ρ1) (fun ds ρ2 => Cl (Γ.call f ds) (fun d fr _ => Q (frR fr d) ρ2) E) E) E) : W (ev Γ (.menu fs i es) ρ) Q E := by
  rw [ev]
  refine (h.mono fun r ρ1 h => ?_).bind
  obtain ⟨k, e1, f, e2, h⟩ := h
  exact .ofO e1 (.ofO rfl (.ofO e2 (h.mono fun ds ρ2 h => W_callOut h).bind))
def OwnK (i : Nat) (ρ : Rho) (K : Nat → D → Prop) : Prop := ∃ m d, ρ[i]? = some (.own m d) ∧ m ≤ 1 ∧ K m d
/-- a list of one's own -/
def OwnL (i : Nat) (ρ : Rho) (K : Nat → List D → Prop) : Prop := ∃ m l, ρ[i]? = some (.own m (.lst l)) ∧ m ≤ 1 ∧ K m l
theorem W_callio {f i : Nat} {es : List PI.E} {r : R} (e : rdVar i ρ = some r) (h : W (evs Γ es ρ) (fun ds ρ1 => OwnL i ρ1 fun m l => Cl (Γ.call f (.lst l :: ds)) (fun d fr io => setK i (.own m io) ρ1 fun ρ2 => Q (frR fr d) ρ2) noE) E) : W (ev Γ (.callio f i es) ρ) Q E := by
  rw [ev]
  refine .ofO e ((h.mono fun ds ρ1 h => ?_).bind)
  obtain ⟨m, l, e1, hm, h⟩ := h
  simp only [e1, if_pos hm]
  cases hc : Γ.call f (.lst l :: ds) with
  | ok d fr io =>
    rw [hc] at h
    have := setK_eq h
    cases fr <;> exact this
  | err c pl => rw [hc] at h; exact h.elim
  | bad => rw [hc] at h; exact h.elim
/-- what a built-in gives -/
def Blt (b : B) (xs : Option (List D)) (K : R → Prop) : Prop := ∃ x z, xs = some x ∧ bltD b x = some z ∧ K z
def fets (ρ : Rho) : List R → Option (List D)
  | [] => some []
  | r :: rs => match fetch ρ r with
    | some d => (fets ρ rs).map (d :: ·)
    | none => none
theorem fets_eq : ∀ {rs : List R}, rs.mapM (fetch ρ) = fets ρ rs
  | [] => rfl
  | r :: rs => by
    rw [List.mapM_cons, fets_eq (rs := rs)]
    show _ = (match fetch ρ r with | some d => (fets ρ rs).map (d :: ·) | none => none)
    cases fetch ρ r with
    | none => rfl
    | some d =>
      cases fets ρ rs <;> rfl
theorem W_blt {b : B} {es : List PI.E} (h : W (evRs Γ es ρ) (fun rs ρ1 => Blt b (fets ρ1 rs) fun z => Q z ρ1) E) : W (ev Γ (.blt b es) ρ) Q E := by
  rw [ev]
  refine (h.mono fun rs ρ1 h => ?_).bind
  obtain ⟨x, z, e1, e2, h⟩ := h
  refine .ofO (a := x) ?_ (.ofO e2 h)
  rw [fets_eq, e1]
def Isa (x : Option D) (t : Nat) (K : Bool → Prop) : Prop := ∃ a z, x = some a ∧ isaD t a = some z ∧ K z
theorem isa_of {t : Nat} {a : D} {z : Bool} {K : Bool → Prop} (e : isaD t a = some z) (h : K z) : Isa (some a) t K := ⟨a, z, rfl, e, h⟩
theorem W_isa {a : PI.E} {t : Nat} (h : W (ev Γ a ρ) (fun r ρ1 => Isa (fetch ρ1 r) t fun z => Q (.dat (.bl z)) ρ1) E) : W (ev Γ (.isa a t) ρ) Q E := by
  rw [ev]
  refine (h.mono fun r ρ1 h => ?_).bind
  obtain ⟨x, z, e1, e2, h⟩ := h
  exact .ofO e1 (.ofO e2 h)
/-- a list of one's own changed -/
def Mut (m : Mu) (d : D) (ds : List D) (K : D → D → Prop) : Prop := ∃ z d', muD m d ds = some (z, d') ∧ K z d'
theorem W_mut {m : Mu} {i : Nat} {es : List PI.E} (e : ownAt i ρ = some ()) (h : W (evs Γ es ρ) (fun ds ρ1 => OwnK i ρ1 fun k d => Mut m d ds fun z d' => setK i (.own k d') ρ1 fun ρ2 => Q (.dat z) ρ2) E) : W (ev Γ (.mut m i es) ρ) Q E := by
  rw [ev]
  refine .ofO e ((h.mono fun ds ρ1 h => ?_).bind)
  obtain ⟨k, d, e1, hm, z, d', e2, h⟩ := h
  simp only [e1, if_pos hm]
  exact .ofO e2 (setK_eq h)
theorem W_rngL {t : Bool} {a b : PI.E} (h : W (ev Γ a ρ) (fun r ρ1 => IntIs (fetch ρ1 r) fun i => W (ev Γ b ρ1) (fun r ρ2 => IntIs (fetch ρ2 r) fun k => rgB i k = true ∧ Q (if t then .dat (.tup (rgD i k)) else .fre (.lst (rgD i k))) ρ2) E) E) : W (ev Γ (.rngL t a b) ρ) Q E := by
  rw [ev]
  refine (h.mono fun r ρ1 h => ?_).bind
  obtain ⟨i, e1, h⟩ := h
  refine .ofO e1 (.ofO rfl ((h.mono fun q ρ2 h => ?_).bind))
  obtain ⟨k, e2, h1, h⟩ := h
  refine .ofO e2 (.ofO rfl ?_)
  rw [if_pos h1]
  exact h
theorem W_rngV {a b : PI.E} (h : W (ev Γ a ρ) (fun r ρ1 => IntIs (fetch ρ1 r) fun i => W (ev Γ b ρ1) (fun r ρ2 => IntIs (fetch ρ2 r) fun k => rgB i k = true ∧ Q (.dat (.scr (rgD i k))) ρ2) E) E) : W (ev Γ (.rngV a b) ρ) Q E := by
  rw [ev]
  refine (h.mono fun r ρ1 h => ?_).bind
  obtain ⟨i, e1, h⟩ := h
  refine .ofO e1 (.ofO rfl ((h.mono fun q ρ2 h => ?_).bind))
  obtain ⟨k, e2, h1, h⟩ := h
  refine .ofO e2 (.ofO rfl ?_)
  rw [if_pos h1]
  exact h
/-! ### what is walked -/
def Lend (r : R) (ρ : Rho) (K : List D → List Nat → Rho → Prop) : Prop := ∃ l js ρ', lend ρ r = some (l, js, ρ') ∧ K l js ρ'
theorem lend_dat {l : List D} {d : D} {K : List D → List Nat → Rho → Prop} (e : seq? d = some l) (h : K l [] ρ) : Lend (.dat d) ρ K := ⟨l, [], ρ, by simp [lend, e], h⟩
theorem lend_fre {l : List D} {d : D} {K : List D → List Nat → Rho → Prop} (e : seq? d = some l) (h : K l [] ρ) : Lend (.fre d) ρ K := ⟨l, [], ρ, by simp [lend, e], h⟩
theorem lend_own {i : Nat} {l : List D} {K : List D → List Nat → Rho → Prop} (e : ρ[i]? = some (.own 0 (.lst l))) (h : setK i (.lent (.lst l)) ρ fun ρ' => K l [i] ρ') : Lend (.pl i) ρ K := ⟨l, [i], _, by simp [lend, e], setK_eq h⟩
theorem lend_lent {i : Nat} {l : List D} {K : List D → List Nat → Rho → Prop} (e : ρ[i]? = some (.lent (.lst l))) (h : K l [] ρ) : Lend (.pl i) ρ K := ⟨l, [], _, by simp [lend, e], h⟩
theorem WI_seq {Q : List D → List Nat → Rho → Prop} {e : PI.E} (h : W (ev Γ e ρ) (fun r ρ1 => Lend r ρ1 Q) E) : WI (evI Γ (.seq e) ρ) Q E := by
  rw [evI]
  refine W.bindI (h.mono fun r ρ1 h => ?_)
  obtain ⟨l, js, ρ', e, h⟩ := h
  exact .ofO e h
/-- .. of a list or a tuple -/
def LendE (r : R) (ρ : Rho) (K : List D → List Nat → Rho → Prop) : Prop := (∃ x, (fetch ρ r).bind parts? = some x) ∧ Lend r ρ K
theorem lendE {r : R} {K : List D → List Nat → Rho → Prop} {x : List D} (e : (fetch ρ r).bind parts? = some x) (h : Lend r ρ K) : LendE r ρ K := ⟨⟨x, e⟩, h⟩
theorem WI_enum {Q : List D → List Nat → Rho → Prop} {e : PI.E} (h : W (ev Γ e ρ) (fun r ρ1 => LendE r ρ1 fun l js ρ2 => Q (enumD 0 l) js ρ2) E) : WI (evI Γ (.enum e) ρ) Q E := by
  rw [evI]
  refine W.bindI (h.mono fun r ρ1 h => ?_)
  obtain ⟨⟨x, e0⟩, l, js, ρ', e, h⟩ := h
  exact .ofO e0 (.ofO e h)
def natsD (l : List Nat) : List D := l.map fun (j : Nat) => D.int (j : Nat)
theorem rgD_nat (n : Nat) : rgD 0 n = (List.range n).map fun (j : Nat) => D.int (j : Nat) := by
  unfold rgD
  simp
theorem rgD_nat2 (m n : Nat) : rgD m n = (List.range' m (n - m)).map fun (j : Nat) => D.int (j : Nat) := by
  unfold rgD
  rw [List.range'_eq_map_range, List.map_map]
  have e : ((n : Int) - (m : Int)).toNat = n - m := by omega
  rw [e]
  refine List.map_congr_left fun j _ => ?_
  simp
theorem in62 {n : Nat} (h : n < 2 ^ 62) : -(2 ^ 62) ≤ (n : Int) ∧ (n : Int) < 2 ^ 62 := by
  have h' : n < 4611686018427387904 := h
  have e : (2 : Int) ^ 62 = 4611686018427387904 := by decide
  rw [e]
  omega
theorem eqI_rng1 (Γ : Gm) (ρ : Rho) (a : PI.E) : evI Γ (.rng1 a) ρ = (ev Γ a ρ >>= fun p => ofO (fetch p.2 p.1) >>= fun x => ofO (int? x) >>= fun k => if -(2 ^ 62) ≤ k ∧ k < 2 ^ 62 then pure (rgD 0 k, [], p.2) else .bad) := by rw [evI]
theorem eqI_rng2 (Γ : Gm) (ρ : Rho) (a b : PI.E) : evI Γ (.rng2 a b) ρ = (ev Γ a ρ >>= fun p => ofO (fetch p.2 p.1) >>= fun x => ofO (int? x) >>= fun i => ev Γ b p.2 >>= fun p => ofO (fetch p.2 p.1) >>= fun x => ofO (int? x) >>= fun k => if -(2 ^ 62) ≤ i ∧ i < 2 ^ 62 ∧ -(2 ^ 62) ≤ k ∧ k < 2 ^ 62 then pure (rgD i k, [], p.2) else .bad) := by rw [evI]
theorem wi_if {c : Prop} [Decidable c] {x y : Out (List D × List Nat × Rho)} {Q : List D → List Nat → Rho → Prop} (h : c) (k : WI x Q E) : WI (if c then x else y) Q E := by
  rw [if_pos h]
  exact k
def NatIs (x : Option D) (K : Nat → Prop) : Prop := ∃ n : Nat, x = some (.int n) ∧ n < 2 ^ 62 ∧ K n
theorem WI_rng1 {Q : List D → List Nat → Rho → Prop} {a : PI.E} (h : W (ev Γ a ρ) (fun r ρ1 => NatIs (fetch ρ1 r) fun n => Q ((List.range n).map fun (j : Nat) => D.int (j : Nat)) [] ρ1) E) : WI (evI Γ (.rng1 a) ρ) Q E := by
  rw [eqI_rng1]
  refine W.bindI (h.mono fun r ρ1 h => ?_)
  obtain ⟨n, e, h1, h⟩ := h
  rw [← rgD_nat] at h
  generalize hk : (n : Int) = k at e h
  refine .ofO e (.ofO (a := k) rfl ?_)
  refine wi_if ?_ h
  rw [← hk]
  exact in62 h1
theorem WI_rng2 {Q : List D → List Nat → Rho → Prop} {a b : PI.E} (h : W (ev Γ a ρ) (fun r ρ1 => NatIs (fetch ρ1 r) fun m => W (ev Γ b ρ1) (fun r ρ2 => NatIs (fetch ρ2 r) fun n => Q ((List.range' m (n - m)).map fun (j : Nat) => D.int (j : Nat)) [] ρ2) E) E) : WI (evI Γ (.rng2 a b) ρ) Q E := by
  rw [eqI_rng2]
  refine W.bindI (h.mono fun r ρ1 h => ?_)
  obtain ⟨m, e, h1, h⟩ := h
  generalize hk : (m : Int) = i at e
  refine .ofO e (.ofO (a := i) rfl (W.bindI (h.mono fun q ρ2 h => ?_)))
  obtain ⟨n, e2, h2, h⟩ := h
  rw [← rgD_nat2, hk] at h
  generalize hj : (n : Int) = k at e2 h
  refine .ofO e2 (.ofO (a := k) rfl ?_)
  refine wi_if ?_ h
  rw [← hk, ← hj]
  exact ⟨(in62 h1).1, (in62 h1).2, in62 h2⟩
theorem WI_zip {Q : List D → List Nat → Rho → Prop} {a b : PI.E} (h : W (ev Γ a ρ) (fun r ρ1 => W (ev Γ b ρ1) (fun q ρ2 => (∃ x y, fetch ρ2 r = some x ∧ fetch ρ2 q = some y ∧ sameK x y = true) ∧ Lend r ρ2 fun l js ρ3 => Lend q ρ3 fun k is ρ4 => Q (zipD l k) (is ++ js) ρ4) E) E) : WI (evI Γ (.zip2 a b) ρ) Q E := by
  rw [evI]
  refine W.bindI (h.mono fun r ρ1 h => ?_)
  refine W.bindI (h.mono fun q ρ2 h => ?_)
  obtain ⟨⟨x, y, e1, e2, e3⟩, l, js, ρ3, e4, k, is, ρ4, e5, h⟩ := h
  refine .ofO e1 (.ofO e2 ?_)
  rw [if_pos e3]
  exact .ofO e4 (.ofO e5 h)

/-! ### comprehensions -/
def evCo (Γ : Gm) (co : Option PI.E) (ρ : Rho) : Out (Bool × Rho) := match co with
  | some c => trO (ev Γ c ρ)
  | none => pure (true, ρ)
def turnG (Γ : Gm) (elt : PI.E) (g : G) (co : Option PI.E) (vs : List Nat) (x : D) (ρ : Rho) : Out (Option D × Rho) := do
  let ρ ← ofO (bindG g x ρ)
  let (b, ρ) ← evCo Γ co ρ
  if b then
    let (r, ρ) ← ev Γ elt ρ
    let (y, ρ) ← ofO (give ρ r)
    pure (some y, wipeR ρ vs)
  else pure (none, wipeR ρ vs)
theorem ev_compG (Γ : Gm) (elt : PI.E) (g : G) (it : I) (co : Option PI.E) (vs : List Nat) (ρ : Rho) : ev Γ (.comp elt g it co vs) ρ = (evI Γ it ρ >>= fun q =>
    if noOwn q.2.2 vs then noErr (mapF (turnG Γ elt g co vs) q.1 (wipeR q.2.2 vs)) >>= fun p => ofO (unlends q.2.1 (backR q.2.2 p.2 vs)) >>= fun ρ2 => if p.1.length ≤ sizeLine then pure (.fre (.lst p.1), ρ2) else .bad
    else .bad) := by
  rw [ev]
  cases co <;> rfl
/-- places wiped, one by one -/
def wipeK : List Nat → Rho → (Rho → Prop) → Prop
  | [], ρ, k => k ρ
  | i :: vs, ρ, k => wipeK vs ρ fun ρ' => setK i .no ρ' k
theorem wipeK_eq : ∀ {vs : List Nat} {ρ : Rho} {k : Rho → Prop}, wipeK vs ρ k → k (wipeR ρ vs)
  | [], _, _, h => h
  | i :: vs, ρ, k, h => setK_eq (wipeK_eq (vs := vs) (k := fun ρ' => setK i .no ρ' k) h)
def backK : List Nat → Rho → Rho → (Rho → Prop) → Prop
  | [], _, ρ', k => k ρ'
  | i :: vs, ρ, ρ', k => backK vs ρ ρ' fun r => setK i (ρ[i]?.getD .no) r k
theorem backK_eq : ∀ {vs : List Nat} {ρ ρ' : Rho} {k : Rho → Prop}, backK vs ρ ρ' k → k (backR ρ ρ' vs)
  | [], _, _, _, h => h
  | i :: vs, ρ, ρ', k, h => setK_eq (backK_eq (vs := vs) (k := fun r => setK i (ρ[i]?.getD .no) r k) h)
def unlK : List Nat → Rho → (Rho → Prop) → Prop
  | [], ρ, k => k ρ
  | i :: rs, ρ, k => ∃ d, ρ[i]? = some (.lent d) ∧ setK i (.own 0 d) ρ fun ρ' => unlK rs ρ' k
theorem unlK_eq : ∀ {rs : List Nat} {ρ : Rho} {k : Rho → Prop}, unlK rs ρ k → ∃ ρ', unlends rs ρ = some ρ' ∧ k ρ'
  | [], ρ, _, h => ⟨ρ, rfl, h⟩
  | i :: rs, ρ, k, h => by
    obtain ⟨d, e, h⟩ := h
    obtain ⟨ρ', e2, h2⟩ := unlK_eq (setK_eq h)
    refine ⟨ρ', ?_, h2⟩
    unfold unlends at *
    rw [List.foldlM_cons]
    have e3 : unlend ρ i = some (ρ.set i (.own 0 d)) := by simp [unlend, e]
    rw [e3]
    exact e2
/-- the target bound -/
def Bnd (g : G) (x : D) (ρ : Rho) (K : Rho → Prop) : Prop := ∃ ρ', bindG g x ρ = some ρ' ∧ K ρ'
theorem bnd_name {i : Nat} {x : D} {K : Rho → Prop} (h : stK i (.val x) ρ K) : Bnd (.name i) x ρ K := by
  obtain ⟨ρ', e, k⟩ := stK_eq h
  exact ⟨ρ', by rw [bindG]; exact e, k⟩
def Bnds (gs : List G) (xs : List D) (ρ : Rho) (K : Rho → Prop) : Prop := ∃ ρ', bindGs gs xs ρ = some ρ' ∧ K ρ'
theorem bnd_tup {gs : List G} {xs : List D} {K : Rho → Prop} (h : Bnds gs xs ρ K) : Bnd (.tup gs) (.tup xs) ρ K := by
  obtain ⟨ρ', e, k⟩ := h
  exact ⟨ρ', by rw [bindG]; exact e, k⟩
theorem bnd_lst {gs : List G} {xs : List D} {K : Rho → Prop} (h : Bnds gs xs ρ K) : Bnd (.tup gs) (.lst xs) ρ K := by
  obtain ⟨ρ', e, k⟩ := h
  exact ⟨ρ', by rw [bindG]; exact e, k⟩
theorem bnds_nil {K : Rho → Prop} (h : K ρ) : Bnds [] [] ρ K := ⟨ρ, by rw [bindGs], h⟩
theorem bnds_cons {g : G} {gs : List G} {x : D} {xs : List D} {K : Rho → Prop} (h : Bnd g x ρ fun ρ' => Bnds gs xs ρ' K) : Bnds (g :: gs) (x :: xs) ρ K := by
  obtain ⟨ρ', e, ρ2, e2, k⟩ := h
  refine ⟨ρ2, ?_, k⟩
  rw [bindGs, e]
  exact e2
/-- one turn of a comprehension: what it gives, the places behind it (wiped) -/
def Turn (Γ : Gm) (elt : PI.E) (g : G) (co : Option PI.E) (vs : List Nat) (x : D) (ρ : Rho) (Q : Option D → Rho → Prop) : Prop := W (turnG Γ elt g co vs x ρ) Q noE
theorem Turn_none {elt : PI.E} {g : G} {vs : List Nat} {x : D} {Q : Option D → Rho → Prop} (h : Bnd g x ρ fun ρ => W (ev Γ elt ρ) (fun r ρ => Giv r ρ fun d ρ => wipeK vs ρ fun ρ => Q (some d) ρ) noE) : Turn Γ elt g none vs x ρ Q := by
  obtain ⟨ρ', e, h⟩ := h
  refine .ofO e ?_
  show W (ev Γ elt ρ' >>= _) _ _
  refine (h.mono fun r ρ1 h => ?_).bind
  obtain ⟨d, ρ2, e2, h⟩ := h
  exact .ofO e2 (wipeK_eq h)
theorem Turn_some {elt : PI.E} {c : PI.E} {g : G} {vs : List Nat} {x : D} {Q : Option D → Rho → Prop} (h : Bnd g x ρ fun ρ => W (ev Γ c ρ) (fun r ρ => Tru (fetch ρ r) fun z => Iff3 z (W (ev Γ elt ρ) (fun r ρ => Giv r ρ fun d ρ => wipeK vs ρ fun ρ => Q (some d) ρ) noE) (wipeK vs ρ fun ρ => Q none ρ)) noE) : Turn Γ elt g (some c) vs x ρ Q := by
  obtain ⟨ρ', e, h⟩ := h
  refine .ofO e ?_
  show W (trO (ev Γ c ρ') >>= _) _ _
  refine W.bind (W_tr (h.mono fun r ρ1 h => ?_))
  obtain ⟨x, z, e1, e2, k⟩ := h
  refine ⟨x, z, e1, e2, ?_⟩
  cases z
  · exact wipeK_eq (k.2 rfl)
  · refine (W.mono (k.1 rfl) fun r ρ1 h => ?_).bind
    obtain ⟨d, ρ2, e2, h⟩ := h
    exact .ofO e2 (wipeK_eq h)
/-- what is left of a comprehension, the items known -/
def Comp (Γ : Gm) (elt : PI.E) (g : G) (co : Option PI.E) (vs : List Nat) (l : List D) (rs : List Nat) (ρ : Rho) (Q : R → Rho → Prop) : Prop :=
  W (if noOwn ρ vs then noErr (mapF (turnG Γ elt g co vs) l (wipeR ρ vs)) >>= fun p => ofO (unlends rs (backR ρ p.2 vs)) >>= fun ρ2 => if p.1.length ≤ sizeLine then pure (.fre (.lst p.1), ρ2) else .bad else .bad) Q noE
theorem noE_le {E : ER} : ∀ c pl, noE c pl → E c pl := fun _ _ h => h.elim
theorem W.monoE {α : Type} {x : Out (α × Rho)} {Q : α → Rho → Prop} {E E' : ER} (h : W x Q E) (m : ∀ c pl, E c pl → E' c pl) : W x Q E' := by
  cases x with
  | ok p => exact h
  | err c pl r => exact m _ _ h
  | bad => exact h
theorem W_comp {elt : PI.E} {g : G} {it : I} {co : Option PI.E} {vs : List Nat} (h : WI (evI Γ it ρ) (fun l rs ρ1 => Comp Γ elt g co vs l rs ρ1 Q) E) : W (ev Γ (.comp elt g it co vs) ρ) Q E := by
  rw [ev_compG]
  refine WI.bind (h.mono fun l rs ρ1 h => W.monoE h noE_le)
theorem mapF_turns {α β : Type} {f : D → Rho → Out (Option D × Rho)} {fi : α → D} {fo : β → D} {S : List α → List β → Rho → Prop} {as : List α} (ht : ∀ pre a post, as = pre ++ a :: post → ∀ ys ρ, S pre ys ρ → W (f (fi a) ρ) (fun y ρ' => (∃ b, y = some (fo b) ∧ S (pre ++ [a]) (ys ++ [b]) ρ') ∨ (y = none ∧ S (pre ++ [a]) ys ρ')) noE) :
    ∀ (post pre : List α) (ys : List β) (ρ : Rho), as = pre ++ post → S pre ys ρ → ∃ zs ρ', mapF f (post.map fi) ρ = .ok (zs.map fo, ρ') ∧ S as (ys ++ zs) ρ'
  | [], pre, ys, ρ, e, h => ⟨[], ρ, rfl, by rw [e]; simpa using h⟩
  | a :: post, pre, ys, ρ, e, h => by
    have h1 := ht pre a post e ys ρ h
    rw [List.map_cons, mapF]
    cases hf : f (fi a) ρ with
    | err c pl r => rw [hf] at h1; exact h1.elim
    | bad => rw [hf] at h1; exact h1.elim
    | ok p =>
      rw [hf] at h1
      rcases h1 with ⟨b, e1, h1⟩ | ⟨e1, h1⟩
      · obtain ⟨zs, ρ', e2, h2⟩ := mapF_turns ht post (pre ++ [a]) (ys ++ [b]) p.2 (by simpa using e) h1
        refine ⟨b :: zs, ρ', ?_, by simpa using h2⟩
        simp [e1, e2]
      · obtain ⟨zs, ρ', e2, h2⟩ := mapF_turns ht post (pre ++ [a]) ys p.2 (by simpa using e) h1
        refine ⟨zs, ρ', ?_, by simpa using h2⟩
        simp [e1, e2]
section
variable {β δ : Type} {elt : PI.E} {g : G} {co : Option PI.E} {vs : List Nat} {rs : List Nat} {l : List D}
/-- the general rule: what holds between turns -/
theorem Comp_inv {as : List δ} {fi : δ → D} (fo : β → D) (S : List δ → List β → Rho → Prop) (hl : l = as.map fi) (hn : noOwn ρ vs = true) (h0 : wipeK vs ρ fun ρ' => S [] [] ρ')
    (ht : ∀ pre a post, as = pre ++ a :: post → ∀ ys ρ, S pre ys ρ → Turn Γ elt g co vs (fi a) ρ fun y ρ' => (∃ b, y = some (fo b) ∧ S (pre ++ [a]) (ys ++ [b]) ρ') ∨ (y = none ∧ S (pre ++ [a]) ys ρ'))
    (q : ∀ ys ρ', S as ys ρ' → ys.length ≤ sizeLine ∧ backK vs ρ ρ' fun ρ2 => unlK rs ρ2 fun ρ3 => Q (.fre (.lst (ys.map fo))) ρ3) : Comp Γ elt g co vs l rs ρ Q := by
  unfold Comp
  rw [if_pos hn, hl]
  obtain ⟨zs, ρ', e, h⟩ := mapF_turns (f := turnG Γ elt g co vs) (fi := fi) (fo := fo) (S := S) (as := as) ht as [] [] (wipeR ρ vs) rfl (wipeK_eq h0)
  rw [e]
  obtain ⟨hz, h2⟩ := q _ _ h
  obtain ⟨ρ2, e2, h3⟩ := unlK_eq (backK_eq h2)
  simp only [noErr, bind_ok]
  rw [List.nil_append] at hz h3
  refine .ofO e2 ?_
  show W (if (List.map fo zs).length ≤ sizeLine then _ else _) Q noE
  rw [if_pos (by rw [List.length_map]; exact hz)]
  exact h3
theorem getSet (ρ : Rho) (i : Nat) : ρ.set i (ρ[i]?.getD .no) = ρ := by
  refine List.ext_getElem? fun j => ?_
  rw [List.getElem?_set]
  by_cases h : i = j
  · subst h
    rw [if_pos rfl]
    by_cases h2 : i < ρ.length
    · rw [if_pos h2]
      simp [List.getElem?_eq_getElem h2]
    · rw [if_neg h2]
      simp at h2
      rw [List.getElem?_eq_none h2]
  · rw [if_neg h]
theorem backR_get' (ρ : Rho) : ∀ (vs : List Nat) (ρ' : Rho), ρ'.length = ρ.length → (∀ j, j ∉ vs → ρ'[j]? = ρ[j]?) → backR ρ ρ' vs = ρ
  | [], ρ', _, h => List.ext_getElem? fun j => h j List.not_mem_nil
  | i :: vs, ρ', hl, h => by
    show (backR ρ ρ' vs).set i _ = ρ
    by_cases hi : i ∈ vs
    · rw [backR_get' ρ vs ρ' hl fun j hj => h j (by simp; exact ⟨fun e => hj (e ▸ hi), hj⟩), getSet]
    · have key : ∀ (vs : List Nat) (ρ' : Rho), (backR ρ ρ' vs).set i (ρ[i]?.getD .no) = backR ρ (ρ'.set i (ρ[i]?.getD .no)) vs := fun vs => by
        induction vs with
        | nil => intro ρ'; rfl
        | cons k vs ih =>
          intro ρ'
          show ((backR ρ ρ' vs).set k _).set i _ = (backR ρ _ vs).set k _
          rw [← ih]
          by_cases hk : i = k
          · subst hk
            simp
          · rw [List.set_comm _ _ (fun e => hk e.symm)]
      rw [key]
      refine backR_get' ρ vs _ (by simpa using hl) fun j hj => ?_
      rw [List.getElem?_set]
      by_cases e : i = j
      · subst e
        rw [if_pos rfl]
        by_cases h2 : i < ρ'.length
        · rw [if_pos h2]
          rw [hl] at h2
          simp [List.getElem?_eq_getElem h2]
        · rw [if_neg h2]
          rw [hl] at h2
          simp at h2
          rw [List.getElem?_eq_none h2]
      · rw [if_neg e]
        exact h j (by simp; exact ⟨fun x => e x.symm, hj⟩)
theorem wipeR_len' (ρ : Rho) : ∀ vs : List Nat, (wipeR ρ vs).length = ρ.length
  | [] => rfl
  | i :: vs => by
    show ((wipeR ρ vs).set i .no).length = _
    rw [List.length_set, wipeR_len' ρ vs]
theorem wipeR_out' (ρ : Rho) : ∀ (vs : List Nat) (j : Nat), j ∉ vs → (wipeR ρ vs)[j]? = ρ[j]?
  | [], _, _ => rfl
  | i :: vs, j, h => by
    show ((wipeR ρ vs).set i .no)[j]? = _
    simp at h
    rw [List.getElem?_set, if_neg (fun e => h.1 e.symm), wipeR_out' ρ vs j h.2]
theorem back_wipe' (ρ : Rho) (vs : List Nat) : backR ρ (wipeR ρ vs) vs = ρ := backR_get' ρ vs _ (wipeR_len' ρ vs) fun j h => wipeR_out' ρ vs j h
/-- turns that leave the places as they were -/
theorem Comp_map {as : List δ} {fi : δ → D} {fo : δ → D} (hl : l = as.map fi) (hn : noOwn ρ vs = true) (hz : as.length ≤ sizeLine)
    (ht : wipeK vs ρ fun ρ0 => ∀ a ∈ as, Turn Γ elt g none vs (fi a) ρ0 fun y ρ' => ρ' = ρ0 ∧ y = some (fo a))
    (q : unlK rs ρ fun ρ3 => Q (.fre (.lst (as.map fo))) ρ3) : Comp Γ elt g none vs l rs ρ Q := by
  have ht' := wipeK_eq ht
  unfold Comp
  rw [if_pos hn, hl]
  have key : ∀ {l : List δ}, (∀ a ∈ l, a ∈ as) → mapF (turnG Γ elt g none vs) (l.map fi) (wipeR ρ vs) = .ok (l.map fo, wipeR ρ vs) := fun {l} => by
    induction l with
    | nil => intro _; rfl
    | cons a l ih =>
      intro h
      rw [List.map_cons, mapF]
      have h1 := ht' a (h a List.mem_cons_self)
      unfold Turn at h1
      cases hf : turnG Γ elt g none vs (fi a) (wipeR ρ vs) with
      | err c pl r => rw [hf] at h1; exact h1.elim
      | bad => rw [hf] at h1; exact h1.elim
      | ok p =>
        rw [hf] at h1
        obtain ⟨e1, e2⟩ := h1
        simp only [bind_ok]
        rw [e1, e2, ih fun b hb => h b (List.mem_cons_of_mem _ hb)]
        rfl
  rw [key fun a h => h]
  obtain ⟨ρ2, e2, h3⟩ := unlK_eq q
  simp only [noErr, bind_ok, back_wipe']
  refine .ofO e2 ?_
  show W (if (List.map fo as).length ≤ sizeLine then _ else _) Q noE
  rw [if_pos (by rw [List.length_map]; exact hz)]
  exact h3
/-- .. each giving the same -/
theorem Comp_const {d : D} {m : Nat} (hm : l.length = m) (hn : noOwn ρ vs = true) (hz : m ≤ 1000000)
    (ht : wipeK vs ρ fun ρ0 => ∀ a ∈ l, Turn Γ elt g none vs a ρ0 fun y ρ' => ρ' = ρ0 ∧ y = some d)
    (q : unlK rs ρ fun ρ3 => Q (.fre (.lst (List.replicate m d))) ρ3) : Comp Γ elt g none vs l rs ρ Q := by
  refine Comp_map (as := l) (fi := fun x => x) (fo := fun _ => d) (by simp) hn (by rw [sizeLine_eq]; omega) ht ?_
  rw [List.map_const', hm]
  exact q
/-- .. with a test -/
theorem Comp_filter {as : List δ} {fi : δ → D} {fo : δ → D} {c : PI.E} {p : δ → Bool} (hl : l = as.map fi) (hn : noOwn ρ vs = true) (hz : as.length ≤ sizeLine)
    (ht : wipeK vs ρ fun ρ0 => ∀ a ∈ as, Turn Γ elt g (some c) vs (fi a) ρ0 fun y ρ' => ρ' = ρ0 ∧ y = if p a then some (fo a) else none)
    (q : unlK rs ρ fun ρ3 => Q (.fre (.lst ((as.filter p).map fo))) ρ3) : Comp Γ elt g (some c) vs l rs ρ Q := by
  have ht' := wipeK_eq ht
  unfold Comp
  rw [if_pos hn, hl]
  have key : ∀ {l : List δ}, (∀ a ∈ l, a ∈ as) → mapF (turnG Γ elt g (some c) vs) (l.map fi) (wipeR ρ vs) = .ok ((l.filter p).map fo, wipeR ρ vs) := fun {l} => by
    induction l with
    | nil => intro _; rfl
    | cons a l ih =>
      intro h
      rw [List.map_cons, mapF]
      have h1 := ht' a (h a List.mem_cons_self)
      unfold Turn at h1
      cases hf : turnG Γ elt g (some c) vs (fi a) (wipeR ρ vs) with
      | err c pl r => rw [hf] at h1; exact h1.elim
      | bad => rw [hf] at h1; exact h1.elim
      | ok p' =>
        rw [hf] at h1
        obtain ⟨e1, e2⟩ := h1
        simp only [bind_ok]
        rw [e1, e2, ih fun b hb => h b (List.mem_cons_of_mem _ hb)]
        cases hp : p a <;> simp [hp]
  rw [key fun a h => h]
  obtain ⟨ρ2, e2, h3⟩ := unlK_eq q
  simp only [noErr, bind_ok, back_wipe']
  refine .ofO e2 ?_
  show W (if (List.map fo (as.filter p)).length ≤ sizeLine then _ else _) Q noE
  rw [if_pos (by rw [List.length_map]; exact Nat.le_trans (List.length_filter_le _ _) hz)]
  exact h3
end

/-! ### statements -/
section
variable {Q : Fl → Prop}
def thn (Γ : Gm) (ss : List S) (Q : Fl → Prop) (E : ER) : Fl → Prop
  | .nx ρ => WS (exSs Γ ss ρ) Q E
  | .rt r ρ => Q (.rt r ρ)
  | .bk ρ => Q (.bk ρ)
  | .ct ρ => Q (.ct ρ)
theorem S_nil (h : Q (.nx ρ)) : WS (exSs Γ [] ρ) Q E := by
  rw [exSs]
  exact h
theorem S_cons {s : S} {ss : List S} (h : WS (exS Γ s ρ) (thn Γ ss Q E) E) : WS (exSs Γ (s :: ss) ρ) Q E := by
  rw [exSs]
  refine WS.bind (h.mono fun f h => ?_)
  cases f <;> exact h
def Hold (P : Prop) : Prop := P
theorem hold {P : Prop} (h : P) : Hold P := h
/-- the first n statements, then a stop -/
def WN (Γ : Gm) (n : Nat) (ss : List S) (ρ : Rho) (Q : Fl → Prop) (E : ER) : Prop := match n, ss with
  | 0, ss => Hold (WS (exSs Γ ss ρ) Q E)
  | _ + 1, [] => Hold (WS (exSs Γ [] ρ) Q E)
  | n + 1, s :: ss => WS (exS Γ s ρ) (fun f => match f with
    | .nx ρ => WN Γ n ss ρ Q E
    | .rt r ρ => Q (.rt r ρ)
    | .bk ρ => Q (.bk ρ)
    | .ct ρ => Q (.ct ρ)) E
def thnN (Γ : Gm) (n : Nat) (ss : List S) (Q : Fl → Prop) (E : ER) : Fl → Prop
  | .nx ρ => WN Γ n ss ρ Q E
  | .rt r ρ => Q (.rt r ρ)
  | .bk ρ => Q (.bk ρ)
  | .ct ρ => Q (.ct ρ)
theorem WN_z {ss : List S} (h : Hold (WS (exSs Γ ss ρ) Q E)) : WN Γ 0 ss ρ Q E := by
  unfold WN
  exact h
theorem WN_s {n : Nat} {s : S} {ss : List S} (h : WS (exS Γ s ρ) (thnN Γ n ss Q E) E) : WN Γ (n + 1) (s :: ss) ρ Q E := by
  unfold WN
  refine h.mono fun f h => ?_
  cases f <;> exact h
theorem S_hold : ∀ (n : Nat) {ss : List S} {ρ : Rho}, WN Γ n ss ρ Q E → WS (exSs Γ ss ρ) Q E
  | 0, ss, ρ, h => by
    unfold WN at h
    exact h
  | n + 1, [], ρ, h => by
    unfold WN at h
    exact h
  | n + 1, s :: ss, ρ, h => by
    unfold WN at h
    rw [exSs]
    cases hs : exS Γ s ρ with
    | err c pl r => rw [hs] at h; exact h
    | bad => rw [hs] at h; exact h
    | ok f =>
      rw [hs] at h
      cases f with
      | nx ρ => exact S_hold n h
      | rt r ρ => exact h
      | bk ρ => exact h
      | ct ρ => exact h
/-- a place takes what was found -/
def Asg (g : G) (r : R) (ρ : Rho) (K : Rho → Prop) : Prop := match g, r with
  | .name i, .fre d => stK i (.own 0 d) ρ K
  | g, r => Giv r ρ fun d ρ => Bnd g d ρ K
theorem S_asg {g : G} {e : PI.E} (h : W (ev Γ e ρ) (fun r ρ => Asg g r ρ fun ρ => Q (.nx ρ)) E) : WS (exS Γ (.asg g e) ρ) Q E := by
  rw [exS]
  refine W.bindS (h.mono fun r ρ1 h => ?_)
  cases g with
  | name i =>
    cases r with
    | dat d =>
      obtain ⟨d, ρ2, e1, ρ3, e2, h⟩ := h
      exact .ofO e1 (.ofO e2 h)
    | fre d =>
      obtain ⟨ρ2, e, h⟩ := stK_eq h
      exact .ofO e h
    | pl j =>
      obtain ⟨d, ρ2, e1, ρ3, e2, h⟩ := h
      exact .ofO e1 (.ofO e2 h)
  | tup gs =>
    obtain ⟨d, ρ2, e1, ρ3, e2, h⟩ := h
    exact .ofO e1 (.ofO e2 h)
/-- kept: a new list as one's own -/
def Kee (r : R) (ρ : Rho) (K : Sl → Rho → Prop) : Prop := match r with
  | .fre (.lst l) => K (.own 0 (.lst l)) ρ
  | .fre _ => False
  | r => Giv r ρ fun d ρ => K (.val d) ρ
theorem P_nil {Q : List Sl → Rho → Prop} (h : Q [] ρ) : W (evP Γ [] ρ) Q E := by
  rw [evP]
  exact h
theorem P_cons {Q : List Sl → Rho → Prop} {e : PI.E} {es : List PI.E} (h : W (ev Γ e ρ) (fun r ρ1 => Kee r ρ1 fun s ρ2 => W (evP Γ es ρ2) (fun ss ρ3 => Q (s :: ss) ρ3) E) E) : W (evP Γ (e :: es) ρ) Q E := by
  rw [evP]
  refine (h.mono fun r ρ1 h => ?_).bind
  cases r with
  | dat d =>
    obtain ⟨d', ρ', e1, k⟩ := h
    simp only [e1]
    exact W.bind (x := .ok (Sl.val d', ρ')) (W.bind (x := evP Γ es ρ') k)
  | fre d =>
    cases d with
    | lst l => exact W.bind (x := .ok (Sl.own 0 (.lst l), ρ1)) (W.bind (x := evP Γ es ρ1) h)
    | _ => exact h.elim
  | pl j =>
    obtain ⟨d', ρ', e1, k⟩ := h
    simp only [e1]
    exact W.bind (x := .ok (Sl.val d', ρ')) (W.bind (x := evP Γ es ρ') k)
def stsK : List Nat → List Sl → Rho → (Rho → Prop) → Prop
  | [], [], ρ, k => k ρ
  | i :: js, s :: ss, ρ, k => stsK js ss ρ fun ρ' => stK i s ρ' k
  | _, _, _, _ => False
theorem stsK_eq : ∀ {js : List Nat} {ss : List Sl} {ρ : Rho} {k : Rho → Prop}, stsK js ss ρ k → ∃ ρ', stVars js ss ρ = some ρ' ∧ k ρ'
  | [], [], ρ, k, h => ⟨ρ, rfl, h⟩
  | i :: js, s :: ss, ρ, k, h => by
    obtain ⟨ρ1, e1, h1⟩ := stsK_eq (js := js) (ss := ss) (k := fun ρ' => stK i s ρ' k) h
    obtain ⟨ρ2, e2, h2⟩ := stK_eq h1
    exact ⟨ρ2, by simp [stVars, e1, e2], h2⟩
  | [], _ :: _, _, _, h => h.elim
  | _ :: _, [], _, _, h => h.elim
theorem S_par {js : List Nat} {es : List PI.E} (h : W (evP Γ es ρ) (fun ss ρ => stsK js ss ρ fun ρ => Q (.nx ρ)) E) : WS (exS Γ (.par js es) ρ) Q E := by
  rw [exS]
  refine W.bindS (h.mono fun ss ρ1 h => ?_)
  obtain ⟨ρ2, e, h⟩ := stsK_eq h
  exact .ofO e h
def OpA (o : Operator) (x : Option D) (y : Option D) (K : Int → Prop) : Prop := ∃ a b k, x = some (.int a) ∧ y = some (.int b) ∧ iopA o a b = some k ∧ K k
theorem S_aug {i : Nat} {o : Operator} {e : PI.E} {r : R} {a : Int} (e1 : rdVar i ρ = some r) (e2 : fetch ρ r = some (.int a)) (h : W (ev Γ e ρ) (fun q ρ1 => OpA o (some (.int a)) (fetch ρ1 q) fun k => stK i (.val (.int k)) ρ1 fun ρ2 => Q (.nx ρ2)) E) : WS (exS Γ (.aug i o e) ρ) Q E := by
  rw [exS]
  refine .ofO e1 (.ofO e2 (.ofO rfl (W.bindS (h.mono fun q ρ1 h => ?_))))
  obtain ⟨a', b, k, f1, f2, f3, h⟩ := h
  cases f1
  obtain ⟨ρ2, f4, h⟩ := stK_eq h
  exact .ofO f2 (.ofO rfl (.ofO f3 (.ofO f4 h)))
/-- what stands at a place of a list, at a dict's key, changed -/
def Six (i : Nat) (d : D) (x : Option D) (ρ : Rho) (K : Rho → Prop) : Prop := ∃ y, x = some y ∧ ((∃ m l n k, ρ[i]? = some (.own m (.lst l)) ∧ y = .int k ∧ m ≤ 1 ∧ ixOf l.length k = some n ∧ setK i (.own m (.lst (l.set n d))) ρ K) ∨
  ∃ t ks vs, ρ[i]? = some (.own 0 (.dic t ks vs)) ∧ keyOk (kindK t ks y) y = true ∧ ks.length < sizeLine ∧ setK i (.own 0 (.dic (kindK t ks y) (putD y d ks vs).1 (putD y d ks vs).2)) ρ K)
theorem S_setix {i : Nat} {j e : PI.E} (h : W (ev Γ e ρ) (fun r ρ => Giv r ρ fun d ρ => ownAny i ρ = some () ∧ W (ev Γ j ρ) (fun q ρ => Six i d (fetch ρ q) ρ fun ρ => Q (.nx ρ)) E) E) : WS (exS Γ (.setix i j e) ρ) Q E := by
  rw [exS]
  refine W.bindS (h.mono fun r ρ1 h => ?_)
  obtain ⟨d, ρ2, e1, e2, h⟩ := h
  refine .ofO e1 (.ofO e2 (W.bindS (W.mono h fun q ρ3 h => ?_)))
  obtain ⟨y, e3, ⟨m, l, n, k, e4, rfl, hm, e5, h⟩ | ⟨t, ks, vs, e4, hk, hn, h⟩⟩ := h
  · refine .ofO e3 ?_
    simp only [e4]
    refine .ofO rfl ?_
    rw [if_pos hm]
    exact .ofO e5 (setK_eq h)
  · refine .ofO e3 ?_
    simp only [e4, true_and]
    rw [if_pos ⟨hk, hn⟩]
    exact setK_eq h
theorem S_ex {e : PI.E} (h : W (ev Γ e ρ) (fun _ ρ => Q (.nx ρ)) E) : WS (exS Γ (.ex e) ρ) Q E := by
  rw [exS]
  exact W.bindS h
theorem S_ret {e : PI.E} (h : W (ev Γ e ρ) (fun r ρ => Q (.rt r ρ)) E) : WS (exS Γ (.ret e) ρ) Q E := by
  rw [exS]
  exact W.bindS h
theorem S_retN (h : Q (.rt (.dat .non) ρ)) : WS (exS Γ .retN ρ) Q E := by
  rw [exS]
  exact h
theorem S_ite {c : PI.E} {a b : List S} (h : W (ev Γ c ρ) (fun r ρ => Tru (fetch ρ r) fun z => Iff3 z (WS (exSs Γ a ρ) Q E) (WS (exSs Γ b ρ) Q E)) E) : WS (exS Γ (.ite c a b) ρ) Q E := by
  rw [exS]
  refine W.bindS (W_tr (h.mono fun r ρ1 h => ?_))
  obtain ⟨x, z, e1, e2, k⟩ := h
  refine ⟨x, z, e1, e2, ?_⟩
  cases z
  · exact k.2 rfl
  · exact k.1 rfl
theorem S_brk (h : Q (.bk ρ)) : WS (exS Γ .brk ρ) Q E := by
  rw [exS]
  exact h
theorem S_cnt (h : Q (.ct ρ)) : WS (exS Γ .cnt ρ) Q E := by
  rw [exS]
  exact h
theorem S_pass (h : Q (.nx ρ)) : WS (exS Γ .pass ρ) Q E := by
  rw [exS]
  exact h
theorem S_raise {c : Nat} {es : List PI.E} (h : W (evs Γ es ρ) (fun ds _ => E c ds) E) : WS (exS Γ (.raise c es) ρ) Q E := by
  rw [exS]
  exact W.bindS h
/-- an error caught, told by a table -/
def Kch (Γ : Gm) (c : Nat) (tbl : List D) (Q : Fl → Prop) (E : ER) : ER := fun c' pl => (Γ.anc c' c = some true ∧ ∃ d, tbl[c']? = some d ∧ ∀ ρ, Q (.rt (.dat d) ρ)) ∨ (Γ.anc c' c = some false ∧ E c' pl)
theorem S_tryk {b : List S} {c : Nat} {tbl : List D} (h : WS (exSs Γ b ρ) Q (Kch Γ c tbl Q E)) : WS (exS Γ (.tryk b c tbl) ρ) Q E := by
  rw [exS]
  cases hb : exSs Γ b ρ with
  | ok f => rw [hb] at h; exact h
  | bad => rw [hb] at h; exact h
  | err c' pl r =>
    rw [hb] at h
    rcases h with ⟨e1, d, e2, q⟩ | ⟨e1, h⟩
    · simp only [e1]
      exact .ofO e2 (q r)
    · simp only [e1]
      exact h
def Tch (Γ : Gm) (c : Nat) (d : D) (Q : Fl → Prop) (E : ER) : ER := fun c' pl => (Γ.anc c' c = some true ∧ ∀ ρ, Q (.rt (.dat d) ρ)) ∨ (Γ.anc c' c = some false ∧ E c' pl)
theorem S_try {b : List S} {c : Nat} {d : D} (h : WS (exSs Γ b ρ) Q (Tch Γ c d Q E)) : WS (exS Γ (.try_ b c d) ρ) Q E := by
  rw [exS]
  cases hb : exSs Γ b ρ with
  | ok f => rw [hb] at h; exact h
  | bad => rw [hb] at h; exact h
  | err c' pl r =>
    rw [hb] at h
    rcases h with ⟨e1, q⟩ | ⟨e1, h⟩
    · simp only [e1]
      exact q r
    · simp only [e1]
      exact h
def bodyG (Γ : Gm) (g : G) (b : List S) (x : D) (ρ : Rho) : Out Fl := do
  let ρ ← ofO (bindG g x ρ)
  exSs Γ b ρ
/-- what is left of a loop, the items known -/
def For (Γ : Gm) (g : G) (b : List S) (l : List D) (rs : List Nat) (ρ : Rho) (Q : Fl → Prop) (E : ER) : Prop := WS (endF rs (forF (bodyG Γ g b) l ρ)) Q E
theorem S_for {g : G} {it : I} {b : List S} (h : WI (evI Γ it ρ) (fun l rs ρ => For Γ g b l rs ρ Q E) E) : WS (exS Γ (.for_ g it b) ρ) Q E := by
  rw [exS]
  exact WI.bindS h
/-- a turn -/
def Body (Γ : Gm) (g : G) (b : List S) (x : D) (ρ : Rho) (Q : Fl → Prop) (E : ER) : Prop := Bnd g x ρ fun ρ => WS (exSs Γ b ρ) Q E
/-- behind a loop -/
def unF (rs : List Nat) (Q : Fl → Prop) : Fl → Prop
  | .nx ρ => unlK rs ρ fun ρ => Q (.nx ρ)
  | .rt r ρ => unlK rs ρ fun ρ => Q (.rt r ρ)
  | _ => False
theorem endF_ok {rs : List Nat} {x : Out Fl} (h : WS x (unF rs Q) E) (hr : rs = [] ∨ ∀ c pl, ¬ E c pl) : WS (endF rs x) Q E := by
  cases x with
  | ok f =>
    cases f with
    | nx ρ =>
      obtain ⟨ρ', e, h⟩ := unlK_eq h
      simp only [endF, e]
      exact h
    | rt r ρ =>
      obtain ⟨ρ', e, h⟩ := unlK_eq h
      simp only [endF, e]
      exact h
    | bk ρ => exact h.elim
    | ct ρ => exact h.elim
  | bad => exact h.elim
  | err c pl ρ =>
    rcases hr with rfl | hr
    · exact h
    · exact (hr c pl h).elim
def lp (I : Rho → Prop) (Q : Fl → Prop) : Fl → Prop
  | .nx ρ => I ρ
  | .ct ρ => I ρ
  | .bk ρ => Q (.nx ρ)
  | .rt r ρ => Q (.rt r ρ)
theorem forF_inv {δ : Type} {g : G} {b : List S} {as : List δ} {fi : δ → D} (I : List δ → Rho → Prop)
    (ht : ∀ pre a post, as = pre ++ a :: post → ∀ ρ, I pre ρ → Body Γ g b (fi a) ρ (lp (I (pre ++ [a])) Q) E) (hq : ∀ ρ, I as ρ → Q (.nx ρ)) :
    ∀ (post pre : List δ) (ρ : Rho), as = pre ++ post → I pre ρ → WS (forF (bodyG Γ g b) (post.map fi) ρ) Q E
  | [], pre, ρ, e, h => hq ρ (by rw [e]; simpa using h)
  | a :: post, pre, ρ, e, h => by
    rw [List.map_cons, forF]
    obtain ⟨ρ1, e1, h1⟩ := ht pre a post e ρ h
    refine WS.bind ?_
    unfold bodyG
    refine .ofO e1 (h1.mono fun f h => ?_)
    cases f with
    | nx ρ => exact forF_inv I ht hq post (pre ++ [a]) ρ (by simpa using e) h
    | ct ρ => exact forF_inv I ht hq post (pre ++ [a]) ρ (by simpa using e) h
    | bk ρ => exact h
    | rt r ρ => exact h
theorem For_inv {δ : Type} {g : G} {b : List S} {l : List D} {rs : List Nat} {as : List δ} {fi : δ → D} (I : List δ → Rho → Prop) (hl : l = as.map fi) (hr : rs = [] ∨ ∀ c pl, ¬ E c pl) (h0 : I [] ρ)
    (ht : ∀ pre a post, as = pre ++ a :: post → ∀ ρ, I pre ρ → Body Γ g b (fi a) ρ (lp (I (pre ++ [a])) (unF rs Q)) E) (hq : ∀ ρ, I as ρ → unlK rs ρ fun ρ => Q (.nx ρ)) : For Γ g b l rs ρ Q E := by
  unfold For
  rw [hl]
  exact endF_ok (forF_inv (Q := unF rs Q) I ht hq as [] ρ rfl h0) hr
def exJ (J : Rho → Prop) (rs : List Nat) (Q : Fl → Prop) : Fl → Prop
  | .nx ρ => J ρ
  | .rt r ρ => unlK rs ρ fun ρ => Q (.rt r ρ)
  | _ => False
/-- .. where break leads to the end, too -/
theorem For_invJ {δ : Type} {g : G} {b : List S} {l : List D} {rs : List Nat} {as : List δ} {fi : δ → D} (I : List δ → Rho → Prop) (J : Rho → Prop) (hl : l = as.map fi) (hr : rs = [] ∨ ∀ c pl, ¬ E c pl) (h0 : I [] ρ)
    (ht : ∀ pre a post, as = pre ++ a :: post → ∀ ρ, I pre ρ → Body Γ g b (fi a) ρ (lp (I (pre ++ [a])) (exJ J rs Q)) E) (hj : ∀ ρ, I as ρ → J ρ) (hq : ∀ ρ, J ρ → unlK rs ρ fun ρ => Q (.nx ρ)) : For Γ g b l rs ρ Q E := by
  unfold For
  rw [hl]
  refine endF_ok ((forF_inv (Q := exJ J rs Q) I ht hj as [] ρ rfl h0).mono fun f h => ?_) hr
  cases f with
  | nx ρ => exact hq ρ h
  | rt r ρ => exact h
  | bk ρ => exact h.elim
  | ct ρ => exact h.elim
theorem whlF_inv {c : PI.E} {b : List S} (I : Nat → Rho → Prop)
    (ht : ∀ n ρ, I n ρ → W (ev Γ c ρ) (fun r ρ => Tru (fetch ρ r) fun z => Iff3 z (WS (exSs Γ b ρ) (lp (fun ρ => ∃ m, m < n ∧ I m ρ) Q) E) (Q (.nx ρ))) E) :
    ∀ (k n : Nat) (ρ : Rho), n < k → I n ρ → WS (whlF (fun ρ => trO (ev Γ c ρ)) (exSs Γ b) k ρ) Q E
  | 0, n, ρ, hk, _ => absurd hk (Nat.not_lt_zero n)
  | k + 1, n, ρ, hk, h => by
    rw [whlF]
    refine W.bindS (W_tr ((ht n ρ h).mono fun r ρ1 h1 => ?_))
    obtain ⟨x, z, e1, e2, h1⟩ := h1
    refine ⟨x, z, e1, e2, ?_⟩
    cases z with
    | false => exact h1.2 rfl
    | true =>
      refine WS.bind ((h1.1 rfl).mono fun f h => ?_)
      cases f with
      | nx ρ =>
        obtain ⟨m, hm, h⟩ := h
        exact whlF_inv I ht k m ρ (by omega) h
      | ct ρ =>
        obtain ⟨m, hm, h⟩ := h
        exact whlF_inv I ht k m ρ (by omega) h
      | bk ρ => exact h
      | rt r ρ => exact h
/-- a while: a number that falls -/
theorem S_whl {c : PI.E} {b : List S} (I : Nat → Rho → Prop) (n : Nat) (h0 : I n ρ) (hn : n < Γ.fuel)
    (ht : ∀ n ρ, I n ρ → W (ev Γ c ρ) (fun r ρ => Tru (fetch ρ r) fun z => Iff3 z (WS (exSs Γ b ρ) (lp (fun ρ => ∃ m, m < n ∧ I m ρ) Q) E) (Q (.nx ρ))) E) : WS (exS Γ (.whl c b) ρ) Q E := by
  rw [exS]
  exact whlF_inv I ht _ n ρ hn h0
end
/-! ### calls -/
theorem Cl_run {P : Pg} {k f : Nat} {F : Fn} {ds : List D} {ρ : Rho} {Q : D → Bool → D → Prop} (hf : P.fns[f]? = some F) (hp : ds.length = F.par) (hio : F.io = false) (hs : ds.map .val ++ List.replicate (F.slots - ds.length) .no = ρ)
    (h : WS (exSs (P.gm (callN P k)) F.body ρ) (fun f => Cl (endFl false f) Q E) E) : Cl (callN P (k + 1) f ds) Q E := by
  rw [callN, hf]
  simp only [runFn, if_pos hp]
  have e : startR F ds = ρ := by
    rw [← hs]
    unfold startR
    rw [hio]
  rw [e, hio]
  cases hb : exSs (P.gm (callN P k)) F.body ρ with
  | ok f => rw [hb] at h; exact h
  | err c pl r => rw [hb] at h; exact h
  | bad => rw [hb] at h; exact h
theorem Cl_runio {P : Pg} {k f : Nat} {F : Fn} {d : D} {ds : List D} {ρ : Rho} {Q : D → Bool → D → Prop} (hf : P.fns[f]? = some F) (hp : (d :: ds).length = F.par) (hio : F.io = true) (hs : .own 1 d :: (ds.map .val ++ List.replicate (F.slots - (d :: ds).length) .no) = ρ)
    (h : WS (exSs (P.gm (callN P k)) F.body ρ) (fun f => Cl (endFl true f) Q noE) noE) : Cl (callN P (k + 1) f (d :: ds)) Q E := by
  rw [callN, hf]
  simp only [runFn, if_pos hp]
  have e : startR F (d :: ds) = ρ := by
    rw [← hs]
    unfold startR
    rw [hio]
  rw [e, hio]
  cases hb : exSs (P.gm (callN P k)) F.body ρ with
  | ok f =>
    rw [hb] at h
    cases hq : endFl true f with
    | ok d fr io => simp only [WS, hq] at h; simp only [hq]; exact h
    | err c pl => simp only [WS, hq] at h; exact h.elim
    | bad => simp only [WS, hq] at h; exact h.elim
  | err c pl r => rw [hb] at h; exact h.elim
  | bad => rw [hb] at h; exact h.elim
theorem Cl_ok {c : COut} {d : D} {fr : Bool} {io : D} {Q : D → Bool → D → Prop} (e : c = .ok d fr io) (h : Q d fr io) : Cl c Q E := by
  rw [e]
  exact h
theorem Cl_er {c : COut} {x : Nat} {pl : List D} {Q : D → Bool → D → Prop} (e : c = .err x pl) (h : E x pl) : Cl c Q E := by
  rw [e]
  exact h
theorem Cl.mono {c : COut} {Q Q' : D → Bool → D → Prop} (h : Cl c Q E) (m : ∀ d fr io, Q d fr io → Q' d fr io) : Cl c Q' E := by
  cases c with
  | ok d fr io => exact m _ _ _ h
  | err c pl => exact h
  | bad => exact h
theorem Cl_is {c : COut} {d : D} {fr : Bool} (h : Cl c (fun d' fr' io => d' = d ∧ fr' = fr ∧ io = .non) noE) : c = .ok d fr .non := by
  cases c with
  | ok d' fr' io =>
    obtain ⟨rfl, rfl, rfl⟩ := h
    rfl
  | err c pl => exact h.elim
  | bad => exact h.elim
theorem Cl_erIs {c : COut} {x : Nat} (h : Cl c (fun _ _ _ => False) fun c pl => c = x ∧ pl = []) : c = .err x [] := by
  cases c with
  | ok d' fr' io => exact h.elim
  | err c pl =>
    obtain ⟨rfl, rfl⟩ := h
    rfl
  | bad => exact h.elim
end
end PI
/-! Answers to the questions. -/
namespace PI
open PySem
section
variable {ρ : Rho} {E : ER}
/-! ### operators -/
section
variable {K : R → Prop} {a b : Nat} {x y : Int}
theorem shOk_nat (h : b ≤ 1000000) (h2 : a < 2 ^ 64) : shOk (a : Int) (b : Int) = true := by
  unfold shOk
  exact decide_eq_true ⟨by omega, by omega, by simpa using h2⟩
theorem op_addN (h : K (.dat (.int ((a + b : Nat) : Int)))) : Op2 .Add (some (.int (a : Int))) (some (.int (b : Int))) K := ⟨_, _, _, rfl, rfl, rfl, h⟩
theorem op_add (h : K (.dat (.int (x + y)))) : Op2 .Add (some (.int x)) (some (.int y)) K := ⟨_, _, _, rfl, rfl, rfl, h⟩
theorem op_subN (hs : b ≤ a) (h : K (.dat (.int ((a - b : Nat) : Int)))) : Op2 .Sub (some (.int (a : Int))) (some (.int (b : Int))) K := by
  refine ⟨_, _, _, rfl, rfl, rfl, ?_⟩
  have e : (a : Int) - (b : Int) = ((a - b : Nat) : Int) := by omega
  rw [e]
  exact h
theorem op_sub (h : K (.dat (.int (x - y)))) : Op2 .Sub (some (.int x)) (some (.int y)) K := ⟨_, _, _, rfl, rfl, rfl, h⟩
theorem mulOk_l {x y : Int} (h : -(2 ^ 64) < x ∧ x < 2 ^ 64) : mulOk x y = true := by
  unfold mulOk
  exact decide_eq_true (.inl h)
theorem mulOk_r {x y : Int} (h : -(2 ^ 64) < y ∧ y < 2 ^ 64) : mulOk x y = true := by
  unfold mulOk
  exact decide_eq_true (.inr (.inl h))
theorem in64 {a : Nat} (h : a < 2 ^ 64) : -(2 ^ 64) < (a : Int) ∧ (a : Int) < 2 ^ 64 := by
  have h' : a < 18446744073709551616 := h
  have e : (2 : Int) ^ 64 = 18446744073709551616 := by decide
  rw [e]
  omega
theorem op_mulN (hs : a < 2 ^ 64 ∨ b < 2 ^ 64) (h : K (.dat (.int ((a * b : Nat) : Int)))) : Op2 .Mult (some (.int (a : Int))) (some (.int (b : Int))) K := by
  refine ⟨_, _, _, rfl, rfl, ?_, h⟩
  have e : mulOk (a : Int) (b : Int) = true := by
    rcases hs with hs | hs
    · exact mulOk_l (in64 hs)
    · exact mulOk_r (in64 hs)
  simp only [opD, iop, e, if_true, Option.map_some]
  rfl
theorem op_mul (hs : mulOk x y = true) (h : K (.dat (.int (x * y)))) : Op2 .Mult (some (.int x)) (some (.int y)) K := by
  refine ⟨_, _, _, rfl, rfl, ?_, h⟩
  simp only [opD, iop, hs, if_true, Option.map_some]
theorem log_lt {n k : Nat} (h : n < 2 ^ k) (hk : 0 < k) : n.log2 < k := by
  by_cases h0 : n = 0
  · subst h0
    simpa using hk
  · exact (Nat.log2_lt h0).mpr h
theorem op_fdivN (h0 : 0 < b) (hs : b < 2 ^ 9000) (h : K (.dat (.int ((a / b : Nat) : Int)))) : Op2 .FloorDiv (some (.int (a : Int))) (some (.int (b : Int))) K := by
  refine ⟨_, _, _, rfl, rfl, ?_, h⟩
  have e : divOk (b : Int) = true := by
    unfold divOk
    refine decide_eq_true ⟨by omega, ?_⟩
    rw [Int.natAbs_natCast]
    exact log_lt hs (by decide)
  simp only [opD, iop, e, if_true, Option.map_some]
  rfl
theorem op_modN (h0 : 0 < b) (h : K (.dat (.int ((a % b : Nat) : Int)))) : Op2 .Mod (some (.int (a : Int))) (some (.int (b : Int))) K := by
  refine ⟨_, _, _, rfl, rfl, ?_, h⟩
  have e : (0 : Int) < (b : Int) := by omega
  simp only [opD, iop, e, if_true, Option.map_some]
  rfl
theorem op_shlN (hb : b ≤ 1000000) (ha : a < 2 ^ 64) (h : K (.dat (.int ((a * 2 ^ b : Nat) : Int)))) : Op2 .LShift (some (.int (a : Int))) (some (.int (b : Int))) K := by
  refine ⟨_, _, _, rfl, rfl, ?_, h⟩
  simp only [opD, iop, shOk_nat hb ha, if_true, Option.map_some]
  simp
theorem op_shl1 (hb : b ≤ 1000000) (h : K (.dat (.int ((2 ^ b : Nat) : Int)))) : Op2 .LShift (some (.int ((1 : Nat) : Int))) (some (.int (b : Int))) K := op_shlN hb (by decide) (by rw [Nat.one_mul]; exact h)
theorem op_shrN (h : K (.dat (.int ((a / 2 ^ b : Nat) : Int)))) : Op2 .RShift (some (.int (a : Int))) (some (.int (b : Int))) K := by
  refine ⟨_, _, _, rfl, rfl, ?_, h⟩
  have e : (0 : Int) ≤ (b : Int) := by omega
  simp only [opD, iop, e, if_true, Option.map_some]
  simp
theorem op_powN (hb : b ≤ 1000000) (ha : a < 2 ^ 64) (h : K (.dat (.int ((a ^ b : Nat) : Int)))) : Op2 .Pow (some (.int (a : Int))) (some (.int (b : Int))) K := by
  refine ⟨_, _, _, rfl, rfl, ?_, h⟩
  simp only [opD, iop, shOk_nat hb ha, if_true, Option.map_some]
  simp
theorem bitAnd_nat (a b : Nat) : Builtin.bitAnd (a : Int) (b : Int) = ((a &&& b : Nat) : Int) := by
  unfold Builtin.bitAnd
  simp
theorem bitAnd_not (a b : Nat) : Builtin.bitAnd (a : Int) (-(b : Int) - 1) = ((a - (a &&& b) : Nat) : Int) := by
  unfold Builtin.bitAnd Builtin.bitNot
  have e : decide ((0 : Int) ≤ -(b : Int) - 1) = false := decide_eq_false (by omega)
  have e0 : decide ((0 : Int) ≤ (a : Int)) = true := decide_eq_true (by omega)
  have e2 : -(-(b : Int) - 1) - 1 = (b : Int) := by omega
  have e3 : (a &&& b) ≤ a := Nat.and_le_left
  rw [e, e0]
  simp only [e2, Int.toNat_natCast]
  omega
theorem or_and_add : ∀ a b : Nat, (a ||| b) + (a &&& b) = a + b := by
  intro a
  induction a using Nat.strongRecOn with
  | _ a ih =>
    intro b
    by_cases h0 : a = 0
    · subst h0
      simp
    · have h1 := ih (a / 2) (by omega) (b / 2)
      have e1 : (a ||| b) / 2 = a / 2 ||| b / 2 := by simpa using Nat.or_div_two_pow (a := a) (b := b) (n := 1)
      have e2 : (a &&& b) / 2 = a / 2 &&& b / 2 := by simpa using Nat.and_div_two_pow (a := a) (b := b) (n := 1)
      have e3 : (a ||| b) % 2 + (a &&& b) % 2 = a % 2 + b % 2 := by
        have f1 := Nat.or_mod_two_pow (a := a) (b := b) (n := 1)
        have f2 := Nat.and_mod_two_pow (a := a) (b := b) (n := 1)
        simp only [Nat.pow_one] at f1 f2
        rw [f1, f2]
        rcases Nat.mod_two_eq_zero_or_one a with p | p <;> rcases Nat.mod_two_eq_zero_or_one b with q | q <;> rw [p, q] <;> decide
      omega
theorem bitOr_nat (a b : Nat) : Builtin.bitOr (a : Int) (b : Int) = ((a ||| b : Nat) : Int) := by
  unfold Builtin.bitOr Builtin.bitAnd Builtin.bitNot
  have e1 : decide ((0 : Int) ≤ -(a : Int) - 1) = false := decide_eq_false (by omega)
  have e2 : decide ((0 : Int) ≤ -(b : Int) - 1) = false := decide_eq_false (by omega)
  have f1 : -(-(a : Int) - 1) - 1 = (a : Int) := by omega
  have f2 : -(-(b : Int) - 1) - 1 = (b : Int) := by omega
  rw [e1, e2]
  simp only [f1, f2, Int.toNat_natCast]
  omega
theorem xor_or (a b : Nat) : (a ^^^ b) + (a &&& b) = a ||| b := by
  induction a using Nat.strongRecOn generalizing b with
  | _ a ih =>
    by_cases h0 : a = 0
    · subst h0
      simp
    · have h1 := ih (a / 2) (by omega) (b / 2)
      have e1 : (a ||| b) / 2 = a / 2 ||| b / 2 := by simpa using Nat.or_div_two_pow (a := a) (b := b) (n := 1)
      have e2 : (a &&& b) / 2 = a / 2 &&& b / 2 := by simpa using Nat.and_div_two_pow (a := a) (b := b) (n := 1)
      have e4 : (a ^^^ b) / 2 = a / 2 ^^^ b / 2 := by simpa using Nat.xor_div_two_pow (a := a) (b := b) (n := 1)
      have e3 : (a ^^^ b) % 2 + (a &&& b) % 2 = (a ||| b) % 2 := by
        have f1 := Nat.or_mod_two_pow (a := a) (b := b) (n := 1)
        have f2 := Nat.and_mod_two_pow (a := a) (b := b) (n := 1)
        have f3 := Nat.xor_mod_two_pow (a := a) (b := b) (n := 1)
        simp only [Nat.pow_one] at f1 f2 f3
        rw [f1, f2, f3]
        rcases Nat.mod_two_eq_zero_or_one a with p | p <;> rcases Nat.mod_two_eq_zero_or_one b with q | q <;> rw [p, q] <;> decide
      omega
theorem bitXor_nat (a b : Nat) : Builtin.bitXor (a : Int) (b : Int) = ((a ^^^ b : Nat) : Int) := by
  unfold Builtin.bitXor
  rw [bitOr_nat, bitAnd_nat]
  have := xor_or a b
  omega
theorem op_andN (h : K (.dat (.int ((a &&& b : Nat) : Int)))) : Op2 .BitAnd (some (.int (a : Int))) (some (.int (b : Int))) K := by
  refine ⟨_, _, _, rfl, rfl, ?_, h⟩
  simp only [opD, iop, bitAnd_nat, Option.map_some]
theorem sub_and (a b : Nat) : a - (a &&& b) = a ^^^ (a &&& b) := by
  have h := xor_or a (a &&& b)
  have e1 : a &&& (a &&& b) = a &&& b := by
    apply Nat.eq_of_testBit_eq
    intro i
    simp
  have e2 : a ||| (a &&& b) = a := by
    apply Nat.eq_of_testBit_eq
    intro i
    simp
    cases a.testBit i <;> simp
  rw [e1, e2] at h
  omega
theorem op_andNot (h : K (.dat (.int ((a ^^^ (a &&& b) : Nat) : Int)))) : Op2 .BitAnd (some (.int (a : Int))) (some (.int (Builtin.bitNot (b : Int)))) K := by
  refine ⟨_, _, _, rfl, rfl, ?_, h⟩
  unfold Builtin.bitNot
  simp only [opD, iop, bitAnd_not, Option.map_some, sub_and]
theorem op_orN (h : K (.dat (.int ((a ||| b : Nat) : Int)))) : Op2 .BitOr (some (.int (a : Int))) (some (.int (b : Int))) K := by
  refine ⟨_, _, _, rfl, rfl, ?_, h⟩
  simp only [opD, iop, bitOr_nat, Option.map_some]
theorem op_xorN (h : K (.dat (.int ((a ^^^ b : Nat) : Int)))) : Op2 .BitXor (some (.int (a : Int))) (some (.int (b : Int))) K := by
  refine ⟨_, _, _, rfl, rfl, ?_, h⟩
  simp only [opD, iop, bitXor_nat, Option.map_some]
theorem op_lst {l l' : List D} (hs : l.length + l'.length ≤ sizeLine) (h : K (.fre (.lst (l ++ l')))) : Op2 .Add (some (.lst l)) (some (.lst l')) K := by
  refine ⟨_, _, _, rfl, rfl, ?_, h⟩
  simp only [opD, if_pos hs]
theorem op_tup {l l' : List D} (hs : l.length + l'.length ≤ sizeLine) (h : K (.dat (.tup (l ++ l')))) : Op2 .Add (some (.tup l)) (some (.tup l')) K := by
  refine ⟨_, _, _, rfl, rfl, ?_, h⟩
  simp only [opD, if_pos hs]
theorem op_lmul {l : List D} {k : Nat} (hk : k < 2 ^ 63) (hs : l.length * k ≤ sizeLine) (h : K (.fre (.lst (List.replicate k l).flatten))) : Op2 .Mult (some (.lst l)) (some (.int (k : Int))) K := by
  refine ⟨_, _, _, rfl, rfl, ?_, h⟩
  have c : -(2 ^ 63) ≤ (k : Int) ∧ (k : Int) < 2 ^ 63 ∧ l.length * (k : Int).toNat ≤ sizeLine := by
    have h' : k < 9223372036854775808 := hk
    have e : (2 : Int) ^ 63 = 9223372036854775808 := by decide
    rw [e]
    refine ⟨by omega, by omega, by simpa using hs⟩
  simp only [opD, repL]
  rw [if_pos c]
  simp only [Option.map_some, Int.toNat_natCast]
theorem op_tmul {l : List D} {k : Nat} (h0 : l ≠ []) (h1 : 1 ≤ k) (h2 : k ≤ 1000) (hs : l.length ≤ 1000) (h : K (.dat (.tup (List.replicate k l).flatten))) : Op2 .Mult (some (.tup l)) (some (.int (k : Int))) K := by
  refine ⟨_, _, _, rfl, rfl, ?_, h⟩
  have c : l ≠ [] ∧ (1 : Int) ≤ (k : Int) ∧ (k : Int) ≤ 1000 ∧ l.length ≤ 1000 := ⟨h0, by omega, by omega, hs⟩
  simp only [opD, if_pos c, Int.toNat_natCast]
end
/-! ### comparisons -/
section
variable {K : Bool → Prop} {a b : Nat} {x y : Int}
theorem cm_eqN (h : K (decide (a = b))) : Cm2 .Eq (some (.int (a : Int))) (some (.int (b : Int))) K := by
  refine ⟨_, _, _, rfl, rfl, rfl, ?_⟩
  have e : decide ((a : Int) = (b : Int)) = decide (a = b) := decide_eq_decide.mpr (by omega)
  rw [e]
  exact h
theorem cm_eq (h : K (decide (x = y))) : Cm2 .Eq (some (.int x)) (some (.int y)) K := ⟨_, _, _, rfl, rfl, rfl, h⟩
theorem cm_neN (h : K (!decide (a = b))) : Cm2 .NotEq (some (.int (a : Int))) (some (.int (b : Int))) K := by
  refine ⟨_, _, _, rfl, rfl, rfl, ?_⟩
  have e : decide ((a : Int) = (b : Int)) = decide (a = b) := decide_eq_decide.mpr (by omega)
  rw [e]
  exact h
theorem cm_ne (h : K (!decide (x = y))) : Cm2 .NotEq (some (.int x)) (some (.int y)) K := ⟨_, _, _, rfl, rfl, rfl, h⟩
theorem cm_ltN (h : K (decide (a < b))) : Cm2 .Lt (some (.int (a : Int))) (some (.int (b : Int))) K := by
  refine ⟨_, _, _, rfl, rfl, rfl, ?_⟩
  have e : decide ((a : Int) < (b : Int)) = decide (a < b) := decide_eq_decide.mpr (by omega)
  rw [e]
  exact h
theorem cm_lt (h : K (decide (x < y))) : Cm2 .Lt (some (.int x)) (some (.int y)) K := ⟨_, _, _, rfl, rfl, rfl, h⟩
theorem cm_leN (h : K (decide (a ≤ b))) : Cm2 .LtE (some (.int (a : Int))) (some (.int (b : Int))) K := by
  refine ⟨_, _, _, rfl, rfl, rfl, ?_⟩
  have e : decide ((a : Int) ≤ (b : Int)) = decide (a ≤ b) := decide_eq_decide.mpr (by omega)
  rw [e]
  exact h
theorem cm_le (h : K (decide (x ≤ y))) : Cm2 .LtE (some (.int x)) (some (.int y)) K := ⟨_, _, _, rfl, rfl, rfl, h⟩
theorem cm_gtN (h : K (decide (b < a))) : Cm2 .Gt (some (.int (a : Int))) (some (.int (b : Int))) K := by
  refine ⟨_, _, _, rfl, rfl, rfl, ?_⟩
  have e : decide ((b : Int) < (a : Int)) = decide (b < a) := decide_eq_decide.mpr (by omega)
  rw [e]
  exact h
theorem cm_gt (h : K (decide (y < x))) : Cm2 .Gt (some (.int x)) (some (.int y)) K := ⟨_, _, _, rfl, rfl, rfl, h⟩
theorem cm_geN (h : K (decide (b ≤ a))) : Cm2 .GtE (some (.int (a : Int))) (some (.int (b : Int))) K := by
  refine ⟨_, _, _, rfl, rfl, rfl, ?_⟩
  have e : decide ((b : Int) ≤ (a : Int)) = decide (b ≤ a) := decide_eq_decide.mpr (by omega)
  rw [e]
  exact h
theorem cm_ge (h : K (decide (y ≤ x))) : Cm2 .GtE (some (.int x)) (some (.int y)) K := ⟨_, _, _, rfl, rfl, rfl, h⟩
theorem cm_isT {z : Bool} (h : K z) : Cm2 .Is (some (.bl z)) (some (.bl true)) K := ⟨_, _, _, rfl, rfl, rfl, h⟩
theorem cm_isNT {z : Bool} (h : K (!z)) : Cm2 .IsNot (some (.bl z)) (some (.bl true)) K := ⟨_, _, _, rfl, rfl, rfl, h⟩
theorem cm_isN {d : D} (h : K (isNon d)) : Cm2 .Is (some d) (some .non) K := ⟨_, _, _, rfl, rfl, rfl, h⟩
theorem cm_isNN {d : D} (h : K (!isNon d)) : Cm2 .IsNot (some d) (some .non) K := ⟨_, _, _, rfl, rfl, rfl, h⟩
theorem cm_eqS {u v : Str} (hu : (D.str u).plain = true) (hv : (D.str v).plain = true) (h : K (u == v)) : Cm2 .Eq (some (.str u)) (some (.str v)) K := by
  refine ⟨_, _, _, rfl, rfl, ?_, h⟩
  have e1 : fit (.str u) = true := by simp [fit, hu, D.dep]
  have e2 : fit (.str v) = true := by simp [fit, hv, D.dep]
  show eqD (.str u) (.str v) = _
  unfold eqD
  rw [e1, e2]
  simp [D.eqv]
theorem cm_eqD {u v : D} (hn : (match u, v with | .int _, .int _ => false | _, _ => true) = true) (hu : fit u = true) (hv : fit v = true) (h : K (u.eqv v)) : Cm2 .Eq (some u) (some v) K := by
  refine ⟨_, _, _, rfl, rfl, ?_, h⟩
  have e : eqD u v = some (u.eqv v) := by
    unfold eqD
    rw [hu, hv]
    rfl
  rw [← e]
  cases u <;> cases v <;> first | rfl | cases hn
theorem cm_neD {u v : D} (hn : (match u, v with | .int _, .int _ => false | _, _ => true) = true) (hu : fit u = true) (hv : fit v = true) (h : K (!u.eqv v)) : Cm2 .NotEq (some u) (some v) K := by
  refine ⟨_, _, _, rfl, rfl, ?_, h⟩
  have e : (eqD u v).map (!·) = some (!u.eqv v) := by
    unfold eqD
    rw [hu, hv]
    rfl
  rw [← e]
  cases u <;> cases v <;> first | rfl | cases hn
end
/-! ### truth -/
section
variable {K : Bool → Prop}
theorem tru_bl {z : Bool} (h : K z) : Tru (some (.bl z)) K := ⟨_, z, rfl, rfl, h⟩
theorem tru_int {i : Int} (h : K (i != 0)) : Tru (some (.int i)) K := ⟨_, _, rfl, rfl, h⟩
theorem tru_lst {l : List D} (h : K (!l.isEmpty)) : Tru (some (.lst l)) K := ⟨_, _, rfl, rfl, h⟩
theorem tru_tup {l : List D} (h : K (!l.isEmpty)) : Tru (some (.tup l)) K := ⟨_, _, rfl, rfl, h⟩
theorem tru_non (h : K false) : Tru (some .non) K := ⟨_, _, rfl, rfl, h⟩
theorem iff_t {P R : Prop} (h : P) : Iff3 true P R := ⟨fun _ => h, fun e => nomatch e⟩
theorem iff_f {P R : Prop} (h : R) : Iff3 false P R := ⟨fun e => (nomatch e), fun _ => h⟩
theorem boolIs {z : Bool} (h : K z) : BoolIs (.dat (.bl z)) K := ⟨z, rfl, h⟩
end
/-! ### items -/
section
variable {K : D → Prop}
theorem ixOf_nat {n k : Nat} (h : k < n) : ixOf n (k : Int) = some k := by
  unfold ixOf
  rw [if_pos (by omega), if_pos (by omega)]
  simp
theorem ix_lst {l : List D} {k : Nat} {d : D} (e : l[k]? = some d) (h : K d) : Ixx (some (.lst l)) (some (.int (k : Int))) K := by
  obtain ⟨hk, _⟩ := List.getElem?_eq_some_iff.mp e
  refine ⟨_, _, d, rfl, rfl, ?_, h⟩
  simp only [ixD, ixOf_nat hk, Option.bind_some]
  exact e
theorem ix_tup {l : List D} {k : Nat} {d : D} (e : l[k]? = some d) (h : K d) : Ixx (some (.tup l)) (some (.int (k : Int))) K := by
  obtain ⟨hk, _⟩ := List.getElem?_eq_some_iff.mp e
  refine ⟨_, _, d, rfl, rfl, ?_, h⟩
  simp only [ixD, ixOf_nat hk, Option.bind_some]
  exact e
theorem ix_lmap {α : Type} {as : List α} {f : α → D} {k : Nat} {a : α} (e : as[k]? = some a) (h : K (f a)) : Ixx (some (.lst (as.map f))) (some (.int (k : Int))) K := ix_lst (by rw [List.getElem?_map, e]; rfl) h
theorem ix_tmap {α : Type} {as : List α} {f : α → D} {k : Nat} {a : α} (e : as[k]? = some a) (h : K (f a)) : Ixx (some (.tup (as.map f))) (some (.int (k : Int))) K := ix_tup (by rw [List.getElem?_map, e]; rfl) h
end
/-! ### built-ins -/
section
variable {K : R → Prop}
theorem bq_lenL {l : List D} (h : K (.dat (.int ((l.length : Nat) : Int)))) : Blt .len (some [.lst l]) K := ⟨_, _, rfl, rfl, h⟩
theorem bq_lenT {l : List D} (h : K (.dat (.int ((l.length : Nat) : Int)))) : Blt .len (some [.tup l]) K := ⟨_, _, rfl, rfl, h⟩
theorem ints_mapI : ∀ l : List Int, ints? (l.map D.int) = some l
  | [] => rfl
  | n :: l => by
    show (ints? (l.map D.int)).map (n :: ·) = _
    rw [ints_mapI l]
    rfl
theorem ints_mapF {α : Type} (f : α → Int) (l : List α) : ints? (l.map fun a => D.int (f a)) = some (l.map f) := by
  have := ints_mapI (l.map f)
  rw [List.map_map] at this
  exact this
theorem bls_mapF {α : Type} (f : α → Bool) : ∀ l : List α, bls? (l.map fun a => D.bl (f a)) = some (l.map f)
  | [] => rfl
  | n :: l => by
    show (bls? (l.map fun a => D.bl (f a))).map (f n :: ·) = _
    rw [bls_mapF f l]
    rfl
theorem sum_cast : ∀ l : List Nat, ((l.map fun (n : Nat) => (n : Int)).sum) = ((l.sum : Nat) : Int)
  | [] => rfl
  | n :: l => by simp [sum_cast l]
theorem bq_sumN {α : Type} {l : List α} {f : α → Nat} (h : K (.dat (.int (((l.map f).sum : Nat) : Int)))) : Blt .sum (some [.lst (l.map fun a => .int ((f a : Nat) : Int))]) K := by
  refine ⟨_, _, rfl, ?_, h⟩
  simp only [bltD]
  rw [ints_mapF (fun a => ((f a : Nat) : Int)) l, Option.map_some, ← sum_cast, List.map_map]
  rfl
theorem bq_all {α : Type} {l : List α} {f : α → Bool} (h : K (.dat (.bl (l.all f)))) : Blt .all (some [.lst (l.map fun a => .bl (f a))]) K := by
  refine ⟨_, _, rfl, ?_, h⟩
  simp only [bltD]
  rw [bls_mapF, Option.map_some, List.all_map]
  rfl
theorem bq_any {α : Type} {l : List α} {f : α → Bool} (h : K (.dat (.bl (l.any f)))) : Blt .any (some [.lst (l.map fun a => .bl (f a))]) K := by
  refine ⟨_, _, rfl, ?_, h⟩
  simp only [bltD]
  rw [bls_mapF, Option.map_some, List.any_map]
  rfl
theorem bq_tupL {l : List D} (h : K (.dat (.tup l))) : Blt .tuple (some [.lst l]) K := ⟨_, _, rfl, rfl, h⟩
theorem bq_tupT {l : List D} (h : K (.dat (.tup l))) : Blt .tuple (some [.tup l]) K := ⟨_, _, rfl, rfl, h⟩
theorem bq_lstL {l : List D} (h : K (.fre (.lst l))) : Blt .list (some [.lst l]) K := ⟨_, _, rfl, rfl, h⟩
theorem bq_lstT {l : List D} (h : K (.fre (.lst l))) : Blt .list (some [.tup l]) K := ⟨_, _, rfl, rfl, h⟩
theorem bq_int {i : Int} (h : K (.dat (.int i))) : Blt .int (some [.int i]) K := ⟨_, _, rfl, rfl, h⟩
theorem bq_intB {z : Bool} (h : K (.dat (.int ((z.toNat : Nat) : Int)))) : Blt .int (some [.bl z]) K := by
  refine ⟨_, _, rfl, rfl, ?_⟩
  cases z <;> exact h
end
/-! ### lists of one's own -/
section
variable {K : D → D → Prop}
theorem mq_append {l : List D} {x : D} (hs : l.length < sizeLine) (h : K .non (.lst (l ++ [x]))) : Mut .append (.lst l) [x] K := by
  refine ⟨_, _, ?_, h⟩
  simp only [muD, if_pos hs]
theorem mq_extend {l k : List D} (hs : l.length + k.length ≤ sizeLine) (h : K .non (.lst (l ++ k))) : Mut .extend (.lst l) [.lst k] K := by
  refine ⟨_, _, ?_, h⟩
  simp only [muD, if_pos hs]
theorem mq_reverse {l : List D} (h : K .non (.lst l.reverse)) : Mut .reverse (.lst l) [] K := ⟨_, _, rfl, h⟩
theorem mq_pop {l : List D} {x : D} (h : K x (.lst l)) : Mut .pop (.lst (l ++ [x])) [] K := by
  refine ⟨x, .lst l, ?_, h⟩
  simp [muD]
theorem mq_appendM {α : Type} {as : List α} {f : α → D} {a : α} (hs : as.length < sizeLine) (h : K .non (.lst ((as ++ [a]).map f))) : Mut .append (.lst (as.map f)) [f a] K := by
  refine mq_append (by rw [List.length_map]; exact hs) ?_
  rw [List.map_append] at h
  exact h
theorem mq_extendM {α : Type} {as bs : List α} {f : α → D} {l : List D} (hl : l = bs.map f) (hs : as.length + bs.length ≤ sizeLine) (h : K .non (.lst ((as ++ bs).map f))) : Mut .extend (.lst (as.map f)) [.lst l] K := by
  subst hl
  refine mq_extend (by rw [List.length_map, List.length_map]; exact hs) ?_
  rw [List.map_append] at h
  exact h
theorem mq_reverseM {α : Type} {as : List α} {f : α → D} (h : K .non (.lst (as.reverse.map f))) : Mut .reverse (.lst (as.map f)) [] K := by
  refine mq_reverse ?_
  rw [List.map_reverse] at h
  exact h
theorem mq_popM {α : Type} {as : List α} {f : α → D} {a : α} (h : K (f a) (.lst (as.map f))) : Mut .pop (.lst ((as ++ [a]).map f)) [] K := by
  rw [List.map_append]
  exact mq_pop h
end
abbrev dn (j : Nat) : D := .int (j : Nat)
theorem op_lstM {α : Type} {K : R → Prop} {as bs : List α} {f : α → D} (hs : as.length + bs.length ≤ sizeLine) (h : K (.fre (.lst ((as ++ bs).map f)))) : Op2 .Add (some (.lst (as.map f))) (some (.lst (bs.map f))) K := by
  refine op_lst (by rw [List.length_map, List.length_map]; exact hs) ?_
  rw [List.map_append] at h
  exact h
theorem Cl_ex {c : COut} {σ : Type} {P : σ → Prop} {d : σ → D} {fr : Bool} {io : σ → D} (h : Cl c (fun d' fr' io' => ∃ s, P s ∧ d' = d s ∧ fr' = fr ∧ io' = io s) noE) : ∃ s, P s ∧ c = .ok (d s) fr (io s) := by
  cases c with
  | ok d' fr' io' =>
    obtain ⟨s, hp, rfl, rfl, rfl⟩ := h
    exact ⟨s, hp, rfl⟩
  | err c pl => exact h.elim
  | bad => exact h.elim
theorem Cl_isIo {c : COut} {d io : D} {fr : Bool} (h : Cl c (fun d' fr' io' => d' = d ∧ fr' = fr ∧ io' = io) noE) : c = .ok d fr io := by
  cases c with
  | ok d' fr' io =>
    obtain ⟨rfl, rfl, rfl⟩ := h
    rfl
  | err c pl => exact h.elim
  | bad => exact h.elim
section
variable {Q : D → Bool → D → Prop} {x io : D}
theorem fin_dat (h : Q x false .non) : Cl (endFl false (.rt (.dat x) ρ)) Q E := h
theorem fin_fre (h : Q x true .non) : Cl (endFl false (.rt (.fre x) ρ)) Q E := h
theorem fin_own {i : Nat} (e : ρ[i]? = some (.own 0 x)) (h : Q x true .non) : Cl (endFl false (.rt (.pl i) ρ)) Q E := by
  simp only [endFl, e]
  exact h
theorem fin_nx (h : Q .non false .non) : Cl (endFl false (.nx ρ)) Q E := h
theorem fio_dat (h : Q x false io) : Cl (endFl true (.rt (.dat x) (.own 1 io :: ρ))) Q E := h
theorem fio_fre (h : Q x true io) : Cl (endFl true (.rt (.fre x) (.own 1 io :: ρ))) Q E := h
theorem fio_own {i : Nat} (e : (Sl.own 1 io :: ρ)[i]? = some (.own 0 x)) (h : Q x true io) : Cl (endFl true (.rt (.pl i) (.own 1 io :: ρ))) Q E := by
  simp only [endFl, e]
  exact h
theorem fio_nx (h : Q .non false io) : Cl (endFl true (.nx (.own 1 io :: ρ))) Q E := h
end
/-! ### places, one step -/
/-- a place that may be set -/
def okQ : Sl → Prop
  | .no => True
  | .val _ => True
  | .own 0 _ => True
  | _ => False
section
variable {i : Nat} {s x : Sl} {r : Rho} {k : Rho → Prop} {d : D} {vs rs : List Nat} {Γ : Gm} {ss : List S} {Q : Fl → Prop}
theorem stK_s (h : stK i s r fun r' => k (x :: r')) : stK (i + 1) s (x :: r) k := h
theorem stK_k (hs : okQ x) (h : k (s :: r)) : stK 0 s (x :: r) k := by
  match x, hs with
  | .no, _ => exact h
  | .val _, _ => exact h
  | .own 0 _, _ => exact h
theorem stK_n (h : k (s :: r)) : stK 0 s (.no :: r) k := h
theorem stK_v (h : k (s :: r)) : stK 0 s (.val d :: r) k := h
theorem stK_o (h : k (s :: r)) : stK 0 s (.own 0 d :: r) k := h
theorem setK_s (h : setK i s r fun r' => k (x :: r')) : setK (i + 1) s (x :: r) k := h
theorem setK_z (h : k (s :: r)) : setK 0 s (x :: r) k := h
theorem wipeK_n (h : k ρ) : wipeK [] ρ k := h
theorem wipeK_c (h : wipeK vs ρ fun ρ' => setK i .no ρ' k) : wipeK (i :: vs) ρ k := h
theorem backK_n {ρ' : Rho} (h : k ρ') : backK [] ρ ρ' k := h
def getK : Nat → Rho → (Sl → Prop) → Prop
  | i, ρ, k => k (ρ[i]?.getD .no)
theorem getK_s {k : Sl → Prop} (h : getK i r k) : getK (i + 1) (x :: r) k := by
  unfold getK at *
  simpa using h
theorem getK_z {k : Sl → Prop} (h : k x) : getK 0 (x :: r) k := by
  unfold getK
  simpa using h
theorem backK_c {ρ' : Rho} (h : getK i ρ fun x => backK vs ρ ρ' fun r => setK i x r k) : backK (i :: vs) ρ ρ' k := h
theorem unlK_n (h : k ρ) : unlK [] ρ k := h
theorem unlK_c (e : ρ[i]? = some (.lent d)) (h : setK i (.own 0 d) ρ fun ρ' => unlK rs ρ' k) : unlK (i :: rs) ρ k := ⟨d, e, h⟩
theorem thnN_nx {n : Nat} (h : WN Γ n ss ρ Q E) : thnN Γ n ss Q E (.nx ρ) := h
theorem thnN_rt {n : Nat} {r : R} (h : Q (.rt r ρ)) : thnN Γ n ss Q E (.rt r ρ) := h
theorem thnN_bk {n : Nat} (h : Q (.bk ρ)) : thnN Γ n ss Q E (.bk ρ) := h
theorem thnN_ct {n : Nat} (h : Q (.ct ρ)) : thnN Γ n ss Q E (.ct ρ) := h
theorem thn_nx (h : WS (exSs Γ ss ρ) Q E) : thn Γ ss Q E (.nx ρ) := h
theorem thn_rt {r : R} (h : Q (.rt r ρ)) : thn Γ ss Q E (.rt r ρ) := h
theorem thn_bk (h : Q (.bk ρ)) : thn Γ ss Q E (.bk ρ) := h
theorem thn_ct (h : Q (.ct ρ)) : thn Γ ss Q E (.ct ρ) := h
theorem lp_nx {I : Rho → Prop} (h : I ρ) : lp I Q (.nx ρ) := h
theorem lp_ct {I : Rho → Prop} (h : I ρ) : lp I Q (.ct ρ) := h
theorem lp_bk {I : Rho → Prop} (h : Q (.nx ρ)) : lp I Q (.bk ρ) := h
theorem lp_rt {I : Rho → Prop} {r : R} (h : Q (.rt r ρ)) : lp I Q (.rt r ρ) := h
theorem unF_nx (h : unlK rs ρ fun ρ => Q (.nx ρ)) : unF rs Q (.nx ρ) := h
theorem unF_rt {r : R} (h : unlK rs ρ fun ρ => Q (.rt r ρ)) : unF rs Q (.rt r ρ) := h
theorem exJ_nx {J : Rho → Prop} (h : J ρ) : exJ J rs Q (.nx ρ) := h
theorem exJ_rt {J : Rho → Prop} {r : R} (h : unlK rs ρ fun ρ => Q (.rt r ρ)) : exJ J rs Q (.rt r ρ) := h
theorem asg_fre (h : stK i (.own 0 d) ρ k) : Asg (.name i) (.fre d) ρ k := h
theorem asg_dat (h : stK i (.val d) ρ k) : Asg (.name i) (.dat d) ρ k := giv_dat (bnd_name h)
theorem asg_pl {j : Nat} (h : Giv (.pl j) ρ fun d ρ => Bnd (.name i) d ρ k) : Asg (.name i) (.pl j) ρ k := h
theorem asg_tup {gs : List G} {r : R} (h : Giv r ρ fun d ρ => Bnd (.tup gs) d ρ k) : Asg (.tup gs) r ρ k := by
  cases r <;> exact h
theorem kee_fre {l : List D} {k : Sl → Rho → Prop} (h : k (.own 0 (.lst l)) ρ) : Kee (.fre (.lst l)) ρ k := h
theorem kee_dat {k : Sl → Rho → Prop} (h : k (.val d) ρ) : Kee (.dat d) ρ k := giv_dat h
theorem kee_pl {j : Nat} {k : Sl → Rho → Prop} (h : Giv (.pl j) ρ fun d ρ => k (.val d) ρ) : Kee (.pl j) ρ k := h
theorem sts_n (h : k ρ) : stsK [] [] ρ k := h
theorem sts_c {js : List Nat} {ss : List Sl} (h : stsK js ss ρ fun ρ' => stK i s ρ' k) : stsK (i :: js) (s :: ss) ρ k := h
theorem iff3 {z : Bool} {P R : Prop} (h : z = true → P) (g : z = false → R) : Iff3 z P R := ⟨h, g⟩
theorem body_of {g : G} {b : List S} {x : D} (h : Bnd g x ρ fun ρ => WS (exSs Γ b ρ) Q E) : Body Γ g b x ρ Q E := h
theorem Op2_of {K : R → Prop} {o : Operator} {x y : D} {z : R} (e : opD o x y = some z) (h : K z) : Op2 o (some x) (some y) K := ⟨_, _, _, rfl, rfl, e, h⟩
theorem Cm2_of {K : Bool → Prop} {o : CmpOp} {x y : D} {z : Bool} (e : cmpD o x y = some z) (h : K z) : Cm2 o (some x) (some y) K := ⟨_, _, _, rfl, rfl, e, h⟩
theorem Blt_of {K : R → Prop} {b : B} {xs : List D} {z : R} (e : bltD b xs = some z) (h : K z) : Blt b (some xs) K := ⟨_, _, rfl, e, h⟩
theorem Mut_of {K : D → D → Prop} {m : Mu} {d : D} {ds : List D} {z d' : D} (e : muD m d ds = some (z, d')) (h : K z d') : Mut m d ds K := ⟨_, _, e, h⟩
theorem Tru_of {K : Bool → Prop} {x : D} {z : Bool} (e : truthD x = some z) (h : K z) : Tru (some x) K := ⟨_, _, rfl, e, h⟩
theorem Ixx_of {K : D → Prop} {x i z : D} (e : ixD x i = some z) (h : K z) : Ixx (some x) (some i) K := ⟨_, _, _, rfl, rfl, e, h⟩
theorem Slx_of {K : R → Prop} {x : D} {l h : Option Int} {z : R} (e : slD x l h = some z) (k : K z) : Slx (some x) l h K := ⟨_, _, rfl, e, k⟩
theorem ownK {K : Nat → D → Prop} {m : Nat} (e : ρ[i]? = some (.own m d)) (hm : decide (m ≤ 1) = true) (h : K m d) : OwnK i ρ K := ⟨m, d, e, of_decide_eq_true hm, h⟩
theorem ownL {l : List D} {K : Nat → List D → Prop} {m : Nat} (e : ρ[i]? = some (.own m (.lst l))) (hm : decide (m ≤ 1) = true) (h : K m l) : OwnL i ρ K := ⟨m, l, e, of_decide_eq_true hm, h⟩
theorem natIs {K : Nat → Prop} {n : Nat} (hn : n < 2 ^ 62) (h : K n) : NatIs (some (.int n)) K := ⟨n, rfl, hn, h⟩
theorem line_le {n : Nat} (h : n ≤ 10000000) : n ≤ sizeLine := by
  rw [sizeLine_eq]
  omega
theorem line_lt {n : Nat} (h : n ≤ 10000000) : n < sizeLine := by
  rw [sizeLine_eq]
  omega
theorem split_lt {α : Type} {as pre post : List α} {a : α} (e : as = pre ++ a :: post) : pre.length < as.length := by
  rw [e]
  simp
theorem un_inv {Γ : Gm} {a : PI.E} {K : R → Rho → Prop} {E : ER} (h : W (ev Γ a ρ) (fun r ρ1 => IntIs (fetch ρ1 r) fun k => K (.dat (.int (Builtin.bitNot k))) ρ1) E) : W (ev Γ (.un .Invert a) ρ) K E := by
  refine W_un (h.mono fun r ρ1 h => ?_)
  obtain ⟨k, e, h⟩ := h
  exact ⟨_, _, e, rfl, h⟩
theorem un_neg {Γ : Gm} {a : PI.E} {K : R → Rho → Prop} {E : ER} (h : W (ev Γ a ρ) (fun r ρ1 => IntIs (fetch ρ1 r) fun k => K (.dat (.int (-k))) ρ1) E) : W (ev Γ (.un .USub a) ρ) K E := by
  refine W_un (h.mono fun r ρ1 h => ?_)
  obtain ⟨k, e, h⟩ := h
  exact ⟨_, _, e, rfl, h⟩
theorem cm_inL {K : Bool → Prop} {x : D} {l : List D} (hx : fit x = true) (hl : fit (.lst l) = true) (h : K (l.any fun y => y.eqv x)) : Cm2 .In (some x) (some (.lst l)) K := by
  refine Cm2_of ?_ h
  show inL x l = _
  unfold inL
  rw [hx, hl]
  rfl
theorem cm_ninL {K : Bool → Prop} {x : D} {l : List D} (hx : fit x = true) (hl : fit (.lst l) = true) (h : K (!(l.any fun y => y.eqv x))) : Cm2 .NotIn (some x) (some (.lst l)) K := by
  refine Cm2_of ?_ h
  show (inL x l).map _ = _
  unfold inL
  rw [hx, hl]
  rfl
theorem getD_get {α : Type} {l : List α} {k : Nat} {x : α} (h : k < l.length) : l[k]? = some (l.getD k x) := by
  rw [List.getD_eq_getElem?_getD, List.getElem?_eq_getElem h]
  rfl
theorem ix_lstN {K : D → Prop} {l : List Nat} {n : Nat} (e : n < l.length) (h : K (.int ((l.getD n 0 : Nat) : Int))) : Ixx (some (.lst (l.map dn))) (some (.int (n : Int))) K := ix_lmap (f := dn) (getD_get e) h
theorem ix_tupN {K : D → Prop} {l : List Nat} {n : Nat} (e : n < l.length) (h : K (.int ((l.getD n 0 : Nat) : Int))) : Ixx (some (.tup (l.map dn))) (some (.int (n : Int))) K := ix_tmap (f := dn) (getD_get e) h
/-- a place that holds a value or none -/
def okV : Sl → Prop
  | .no => True
  | .val _ => True
  | _ => False
theorem okV_okS {s : Sl} (h : okV s) : okQ s := by
  cases s <;> trivial
theorem okV_or {s : Sl} (h : okV s) : s = .no ∨ ∃ d, s = .val d := by
  cases s with
  | no => exact .inl rfl
  | val d => exact .inr ⟨d, rfl⟩
  | own m d => exact h.elim
  | lent d => exact h.elim
theorem stK_kV {s x : Sl} {r : Rho} {k : Rho → Prop} (hs : okV x) (h : k (s :: r)) : stK 0 s (x :: r) k := stK_k (okV_okS hs) h
theorem minI_nat : ∀ (ns : List Nat) (m : Nat), minI (m : Int) (ns.map fun (n : Nat) => (n : Int)) = ((ns.foldl min m : Nat) : Int)
  | [], m => rfl
  | n :: ns, m => by
    rw [List.map_cons, minI, List.foldl_cons, ← minI_nat ns]
    congr 1
    split <;> omega
theorem maxI_nat : ∀ (ns : List Nat) (m : Nat), maxI (m : Int) (ns.map fun (n : Nat) => (n : Int)) = ((ns.foldl max m : Nat) : Int)
  | [], m => rfl
  | n :: ns, m => by
    rw [List.map_cons, maxI, List.foldl_cons, ← maxI_nat ns]
    congr 1
    split <;> omega
theorem bq_minN {α : Type} {K : R → Prop} {l : List α} {f : α → Nat} (hl : l ≠ []) (h : K (.dat (.int ((((l.map f).min?.getD 0 : Nat)) : Int)))) : Blt .min (some [.lst (l.map fun a => .int ((f a : Nat) : Int))]) K := by
  refine Blt_of ?_ h
  simp only [bltD]
  rw [ints_mapF (fun a => ((f a : Nat) : Int)) l]
  cases l with
  | nil => exact absurd rfl hl
  | cons a l =>
    simp only [List.map_cons, List.min?_cons', Option.getD_some]
    have := minI_nat (l.map f) (f a)
    rw [List.map_map] at this
    exact congrArg (fun x => some (R.dat (.int x))) this
theorem bq_maxN {α : Type} {K : R → Prop} {l : List α} {f : α → Nat} (hl : l ≠ []) (h : K (.dat (.int ((((l.map f).max?.getD 0 : Nat)) : Int)))) : Blt .max (some [.lst (l.map fun a => .int ((f a : Nat) : Int))]) K := by
  refine Blt_of ?_ h
  simp only [bltD]
  rw [ints_mapF (fun a => ((f a : Nat) : Int)) l]
  cases l with
  | nil => exact absurd rfl hl
  | cons a l =>
    simp only [List.map_cons, List.max?_cons', Option.getD_some]
    have := maxI_nat (l.map f) (f a)
    rw [List.map_map] at this
    exact congrArg (fun x => some (R.dat (.int x))) this
theorem min_of {l : List Nat} {P : Nat → Prop} (h : ∀ x ∈ l, P x) (hl : l ≠ []) : P (l.min?.getD 0) := by
  cases e : l.min? with
  | none => exact absurd (List.min?_eq_none_iff.mp e) hl
  | some m => exact h m (List.min?_mem e)
theorem max_of {l : List Nat} {P : Nat → Prop} (h : ∀ x ∈ l, P x) (hl : l ≠ []) : P (l.max?.getD 0) := by
  cases e : l.max? with
  | none => exact absurd (List.max?_eq_none_iff.mp e) hl
  | some m => exact h m (List.max?_mem e)
theorem opa_orN {K : Int → Prop} {a b : Nat} (h : K ((a ||| b : Nat) : Int)) : OpA .BitOr (some (.int (a : Int))) (some (.int (b : Int))) K := by
  refine ⟨_, _, _, rfl, rfl, ?_, h⟩
  simp only [iopA, bitOr_nat]
theorem opa_andN {K : Int → Prop} {a b : Nat} (h : K ((a &&& b : Nat) : Int)) : OpA .BitAnd (some (.int (a : Int))) (some (.int (b : Int))) K := by
  refine ⟨_, _, _, rfl, rfl, ?_, h⟩
  simp only [iopA, bitAnd_nat]
theorem opa_xorN {K : Int → Prop} {a b : Nat} (h : K ((a ^^^ b : Nat) : Int)) : OpA .BitXor (some (.int (a : Int))) (some (.int (b : Int))) K := by
  refine ⟨_, _, _, rfl, rfl, ?_, h⟩
  simp only [iopA, bitXor_nat]
theorem opa_addN {K : Int → Prop} {a b : Nat} (h : K ((a + b : Nat) : Int)) : OpA .Add (some (.int (a : Int))) (some (.int (b : Int))) K := ⟨_, _, _, rfl, rfl, rfl, h⟩
theorem opa_subN {K : Int → Prop} {a b : Nat} (hs : b ≤ a) (h : K ((a - b : Nat) : Int)) : OpA .Sub (some (.int (a : Int))) (some (.int (b : Int))) K := by
  refine ⟨_, _, _, rfl, rfl, rfl, ?_⟩
  have e : (a : Int) - (b : Int) = ((a - b : Nat) : Int) := by omega
  rw [e]
  exact h
theorem opa_mulN {K : Int → Prop} {a b : Nat} (hs : a < 2 ^ 64 ∨ b < 2 ^ 64) (h : K ((a * b : Nat) : Int)) : OpA .Mult (some (.int (a : Int))) (some (.int (b : Int))) K := by
  refine ⟨_, _, _, rfl, rfl, ?_, h⟩
  have e : mulOk (a : Int) (b : Int) = true := by
    rcases hs with hs | hs
    · exact mulOk_l (in64 hs)
    · exact mulOk_r (in64 hs)
  simp only [iopA, e, if_true]
  rfl
theorem tru_intN {K : Bool → Prop} {a : Nat} (h : K (a != 0)) : Tru (some (.int (a : Int))) K := by
  refine Tru_of (z := a != 0) ?_ h
  show some ((a : Int) != 0) = some (a != 0)
  congr 1
  cases a <;> rfl
theorem enumD_map {α : Type} (f : α → D) : ∀ (l : List α) (n : Nat), enumD n (l.map f) = (l.zipIdx n).map fun p => .tup [.int ((p.2 : Nat) : Int), f p.1]
  | [], _ => rfl
  | x :: l, n => by simp [enumD, enumD_map f l (n + 1)]
theorem W_rngVN {Γ : Gm} {b : PI.E} {Q : R → Rho → Prop} {E : ER} (h : W (ev Γ b ρ) (fun r ρ2 => NatIs (fetch ρ2 r) fun n => n ≤ 2 ^ 24 ∧ Q (.dat (.scr ((List.range n).map dn))) ρ2) E) : W (ev Γ (.rngV (.con (.int (0 : Nat))) b) ρ) Q E := by
  refine W_rngV (W_con ⟨0, rfl, h.mono fun r ρ2 h => ?_⟩)
  obtain ⟨n, e, _, h1, h2⟩ := h
  refine ⟨n, e, ?_, ?_⟩
  · unfold rgB
    have e : (2 : Int) ^ 62 = 4611686018427387904 := by decide
    rw [e]
    have h' : n ≤ 16777216 := h1
    exact decide_eq_true ⟨by omega, by omega, by omega, by omega, by have : (2 : Nat) ^ 24 = 16777216 := by decide
                                                                     omega⟩
  · have e0 := rgD_nat n
    rw [e0]
    exact h2
theorem W_rngN {Γ : Gm} {b : PI.E} {Q : R → Rho → Prop} {E : ER} (h : W (ev Γ b ρ) (fun r ρ2 => NatIs (fetch ρ2 r) fun n => n ≤ 2 ^ 24 ∧ Q (.fre (.lst ((List.range n).map dn))) ρ2) E) : W (ev Γ (.rngL false (.con (.int (0 : Nat))) b) ρ) Q E := by
  refine W_rngL (W_con ⟨0, rfl, h.mono fun r ρ2 h => ?_⟩)
  obtain ⟨n, e, _, h1, h2⟩ := h
  refine ⟨n, e, ?_, ?_⟩
  · unfold rgB
    have e : (2 : Int) ^ 62 = 4611686018427387904 := by decide
    rw [e]
    have h' : n ≤ 16777216 := h1
    exact decide_eq_true ⟨by omega, by omega, by omega, by omega, by have : (2 : Nat) ^ 24 = 16777216 := by decide
                                                                     omega⟩
  · rw [if_neg (by decide)]
    have e0 := rgD_nat n
    rw [e0]
    exact h2
theorem cut1 {α : Type} {a : α} {l : List α} : cutL (a :: l) none (some ((1 : Nat) : Int)) = [a] := by
  have e : (min (1 : Int) (((a :: l).length : Nat) : Int)).toNat = 1 := by
    rw [List.length_cons]
    omega
  have e2 : clip (a :: l).length (a :: l).length (some ((1 : Nat) : Int)) = 1 := e
  unfold cutL
  rw [e2]
  rfl
section
variable {P : Pg} {c : Nat → List D → COut} {Q : R → Rho → Prop}
theorem P_call {f : Nat} {es : List PI.E} (h : W (evs (P.gm c) es ρ) (fun ds ρ1 => Cl (c f ds) (fun d fr _ => Q (frR fr d) ρ1) E) E) : W (ev (P.gm c) (.call f es) ρ) Q E := W_call h
theorem P_menu {fs : List Nat} {i : PI.E} {es : List PI.E} (h : W (ev (P.gm c) i ρ) (fun r ρ1 => IntIs (fetch ρ1 r) fun k => ∃ f, ((ixOf fs.length k).bind fun j => fs[j]?) = some f ∧ W (evs (P.gm c) es ρ1) (fun ds ρ2 => Cl (c f ds) (fun d fr _ => Q (frR fr d) ρ2) E) E) E) : W (ev (P.gm c) (.menu fs i es) ρ) Q E := W_menu h
theorem P_callio {f i : Nat} {es : List PI.E} {r : R} (e : rdVar i ρ = some r) (h : W (evs (P.gm c) es ρ) (fun ds ρ1 => OwnL i ρ1 fun m l => Cl (c f (.lst l :: ds)) (fun d fr io => setK i (.own m io) ρ1 fun ρ2 => Q (frR fr d) ρ2) noE) E) : W (ev (P.gm c) (.callio f i es) ρ) Q E := W_callio e h
end
end
end
/-! ### dicts, tests in tuples -/
theorem W_dsp {Γ : Gm} {ρ : Rho} {es : List PI.E} {Q : R → Rho → Prop} {E : ER} (h : W (evs Γ es ρ) (fun ds ρ1 => ds.length ≤ 30 ∧ ∃ p, putsD [] [] ds = some p ∧ Q (.fre (.dic false p.1 p.2)) ρ1) E) : W (ev Γ (.dsp es) ρ) Q E := by
  rw [ev]
  refine (h.mono fun ds ρ1 h => ?_).bind
  obtain ⟨h1, p, h2, h3⟩ := h
  simp only [h1, if_true]
  exact .ofO h2 h3
theorem cm_inT {K : Bool → Prop} {x : D} {l : List D} (hx : fit x = true) (hl : fit (.lst l) = true) (h : K (l.any fun y => y.eqv x)) : Cm2 .In (some x) (some (.tup l)) K := by
  refine Cm2_of ?_ h
  show inL x l = _
  unfold inL
  rw [hx, hl]
  rfl
theorem cm_ninT {K : Bool → Prop} {x : D} {l : List D} (hx : fit x = true) (hl : fit (.lst l) = true) (h : K (!(l.any fun y => y.eqv x))) : Cm2 .NotIn (some x) (some (.tup l)) K := by
  refine Cm2_of ?_ h
  show (inL x l).map _ = _
  unfold inL
  rw [hx, hl]
  rfl
end PI
/-! Plain rules: dicts, stars, methods. -/
namespace PI
open PySem
section
variable {Γ : Gm} {ρ : Rho} {E : ER} {Q : R → Rho → Prop}
theorem W_dnew (h : Q (.fre (.dic false [] [])) ρ) : W (ev Γ .dnew ρ) Q E := by
  rw [ev]
  exact h
def Rvx (x : Option D) (K : R → Prop) : Prop := ∃ a z, x = some a ∧ revD a = some z ∧ K z
theorem rv_lst {l : List D} {K : R → Prop} (h : K (.fre (.lst l.reverse))) : Rvx (some (.lst l)) K := ⟨_, _, rfl, rfl, h⟩
theorem rv_tup {l : List D} {K : R → Prop} (h : K (.dat (.tup l.reverse))) : Rvx (some (.tup l)) K := ⟨_, _, rfl, rfl, h⟩
theorem W_rev {a : PI.E} (h : W (ev Γ a ρ) (fun r ρ1 => Rvx (fetch ρ1 r) fun z => Q z ρ1) E) : W (ev Γ (.rev a) ρ) Q E := by
  rw [ev]
  refine (h.mono fun r ρ1 h => ?_).bind
  obtain ⟨x, z, e1, e2, h⟩ := h
  exact .ofO e1 (.ofO e2 h)
def Spl (x : Option D) (K : List D → Prop) : Prop := ∃ a l, x = some a ∧ parts? a = some l ∧ K l
theorem spl_lst {l : List D} {K : List D → Prop} (h : K l) : Spl (some (.lst l)) K := ⟨_, _, rfl, rfl, h⟩
theorem spl_tup {l : List D} {K : List D → Prop} (h : K l) : Spl (some (.tup l)) K := ⟨_, _, rfl, rfl, h⟩
theorem W_spn {Q : List D → Rho → Prop} {st : List Bool} (h : Q [] ρ) : W (evSp Γ [] st ρ) Q E := by
  rw [evSp]
  exact h
theorem W_spT {Q : List D → Rho → Prop} {e : PI.E} {es : List PI.E} {st : List Bool} (h : W (ev Γ e ρ) (fun r ρ1 => Spl (fetch ρ1 r) fun l => W (evSp Γ es st ρ1) (fun ds ρ2 => Q (l ++ ds) ρ2) E) E) : W (evSp Γ (e :: es) (true :: st) ρ) Q E := by
  rw [evSp]
  refine (h.mono fun r ρ1 h => ?_).bind
  obtain ⟨a, l, e1, e2, h⟩ := h
  simp only [List.headD_cons, List.tail_cons, if_true]
  exact .ofO e1 (.ofO e2 ((h.mono fun ds ρ2 h => h).bind))
theorem W_spF {Q : List D → Rho → Prop} {e : PI.E} {es : List PI.E} {st : List Bool} (h : W (ev Γ e ρ) (fun r ρ1 => Giv r ρ1 fun d ρ1 => W (evSp Γ es st ρ1) (fun ds ρ2 => Q (d :: ds) ρ2) E) E) : W (evSp Γ (e :: es) (false :: st) ρ) Q E := by
  rw [evSp]
  refine (h.mono fun r ρ1 h => ?_).bind
  obtain ⟨d, ρ', e1, h⟩ := h
  simp only [List.headD_cons, List.tail_cons]
  exact .ofO e1 ((h.mono fun ds ρ2 h => h).bind)
theorem W_spl {t : Bool} {es : List PI.E} {st : List Bool} (h : W (evSp Γ es st ρ) (fun ds ρ1 => ds.length ≤ sizeLine ∧ Q (if t then .dat (.tup ds) else .fre (.lst ds)) ρ1) E) : W (ev Γ (.spl t es st) ρ) Q E := by
  rw [ev]
  refine (h.mono fun ds ρ1 h => ?_).bind
  simp only [h.1, if_true]
  exact h.2
def KindIs (b : B) (x : Option D) (P : Prop) : Prop := ∃ a, x = some a ∧ kindM b a = some () ∧ P
theorem kindIs {b : B} {a : D} {P : Prop} (e : kindM b a = some ()) (h : P) : KindIs b (some a) P := ⟨a, rfl, e, h⟩
theorem W_mth {b : B} {o : PI.E} {es : List PI.E} (h : W (ev Γ o ρ) (fun r ρ1 => KindIs b (fetch ρ1 r) (W (evRs Γ es ρ1) (fun rs ρ2 => Blt b (fets ρ2 (r :: rs)) fun z => Q z ρ2) E)) E) : W (ev Γ (.mth b o es) ρ) Q E := by
  rw [ev]
  refine (h.mono fun r ρ1 h => ?_).bind
  obtain ⟨a, e1, e2, h⟩ := h
  refine .ofO e1 (.ofO e2 ((h.mono fun rs ρ2 h => ?_).bind))
  obtain ⟨x, z, e3, e4, h⟩ := h
  refine .ofO (a := x) ?_ (.ofO e4 h)
  rw [fets_eq, e3]
/-! ### dict comprehensions -/
def turnDD (Γ : Gm) (kx vx : PI.E) (g : G) (co : Option PI.E) (vs : List Nat) (x : D) (ρ : Rho) : Out (Option (D × D) × Rho) := do
  let ρ ← ofO (bindG g x ρ)
  let (b, ρ) ← evCo Γ co ρ
  if b then
    let (r, ρ) ← ev Γ kx ρ
    let (y, ρ) ← ofO (give ρ r)
    let (r, ρ) ← ev Γ vx ρ
    let (z, ρ) ← ofO (give ρ r)
    pure (some (y, z), wipeR ρ vs)
  else pure (none, wipeR ρ vs)
theorem ev_dcompD (Γ : Gm) (kx vx : PI.E) (g : G) (it : I) (co : Option PI.E) (vs : List Nat) (ρ : Rho) : ev Γ (.dcomp kx vx g it co vs) ρ = (evI Γ it ρ >>= fun q =>
    if noOwn q.2.2 vs then noErr (dictF (turnDD Γ kx vx g co vs) q.1 (wipeR q.2.2 vs) false [] []) >>= fun p => ofO (unlends q.2.1 (backR q.2.2 p.2 vs)) >>= fun ρ2 => pure (.fre (.dic p.1.1 p.1.2.1 p.1.2.2), ρ2)
    else .bad) := by
  rw [ev]
  cases co <;> rfl
def DTurn (Γ : Gm) (kx vx : PI.E) (g : G) (co : Option PI.E) (vs : List Nat) (x : D) (ρ : Rho) (Q : Option (D × D) → Rho → Prop) : Prop := W (turnDD Γ kx vx g co vs x ρ) Q noE
theorem DTurn_none {kx vx : PI.E} {g : G} {vs : List Nat} {x : D} {Q : Option (D × D) → Rho → Prop} (h : Bnd g x ρ fun ρ => W (ev Γ kx ρ) (fun r ρ => Giv r ρ fun d ρ => W (ev Γ vx ρ) (fun r ρ => Giv r ρ fun z ρ => wipeK vs ρ fun ρ => Q (some (d, z)) ρ) noE) noE) : DTurn Γ kx vx g none vs x ρ Q := by
  obtain ⟨ρ', e, h⟩ := h
  refine .ofO e ?_
  show W (ev Γ kx ρ' >>= _) _ _
  refine (h.mono fun r ρ1 h => ?_).bind
  obtain ⟨d, ρ2, e2, h⟩ := h
  refine .ofO e2 ?_
  refine (h.mono fun r ρ1 h => ?_).bind
  obtain ⟨z, ρ3, e3, h⟩ := h
  exact .ofO e3 (wipeK_eq h)
def DComp (Γ : Gm) (kx vx : PI.E) (g : G) (co : Option PI.E) (vs : List Nat) (l : List D) (rs : List Nat) (ρ : Rho) (Q : R → Rho → Prop) : Prop :=
  W (if noOwn ρ vs then noErr (dictF (turnDD Γ kx vx g co vs) l (wipeR ρ vs) false [] []) >>= fun p => ofO (unlends rs (backR ρ p.2 vs)) >>= fun ρ2 => pure (.fre (.dic p.1.1 p.1.2.1 p.1.2.2), ρ2) else .bad) Q noE
theorem W_dcomp {kx vx : PI.E} {g : G} {it : I} {co : Option PI.E} {vs : List Nat} (h : WI (evI Γ it ρ) (fun l rs ρ1 => DComp Γ kx vx g co vs l rs ρ1 Q) E) : W (ev Γ (.dcomp kx vx g it co vs) ρ) Q E := by
  rw [ev_dcompD]
  refine WI.bind (h.mono fun l rs ρ1 h => W.monoE h noE_le)
/-- a key put among keys -/
def putK (ks : List D) (k : D) : List D := if ks.any (fun x => x.eqv k) then ks else ks ++ [k]
theorem putD_fst {k v : D} {ks vs : List D} : (putD k v ks vs).1 = putK ks k := by
  unfold putD putK
  split <;> rfl
theorem putK_len {ks : List D} {k : D} : (putK ks k).length ≤ ks.length + 1 := by
  unfold putK
  split
  · omega
  · simp
theorem putK_ne {ks : List D} {k : D} : (putK ks k).isEmpty = false := by
  unfold putK
  split
  · cases ks with
    | nil => rename_i h; simp at h
    | cons _ _ => rfl
  · cases ks <;> rfl
theorem DComp_map {δ : Type} {kx vx : PI.E} {g : G} {vs : List Nat} {l : List D} {rs : List Nat} {as : List δ} {fi ko : δ → D} {v : D} (t : Bool) (hl : l = as.map fi) (hn : noOwn ρ vs = true) (hz : as.length < sizeLine) (hk : ∀ a ∈ as, tupK (ko a) = t ∧ keyOk t (ko a) = true)
    (ht : wipeK vs ρ fun ρ0 => ∀ a ∈ as, DTurn Γ kx vx g none vs (fi a) ρ0 fun y ρ' => ρ' = ρ0 ∧ y = some (ko a, v))
    (q : unlK rs ρ fun ρ3 => ∀ t' ws, (as ≠ [] → t' = t) → Q (.fre (.dic t' ((as.map ko).foldl putK []) ws)) ρ3) : DComp Γ kx vx g none vs l rs ρ Q := by
  have ht' := wipeK_eq ht
  unfold DComp
  rw [if_pos hn, hl]
  have key : ∀ {l : List δ} {t1 : Bool} {ks ws : List D}, (∀ a ∈ l, a ∈ as) → ks.length + l.length ≤ as.length → (ks.isEmpty = false → t1 = t) → ∃ t2 ws2, (l ≠ [] ∨ ks.isEmpty = false → t2 = t) ∧ dictF (turnDD Γ kx vx g none vs) (l.map fi) (wipeR ρ vs) t1 ks ws = .ok ((t2, (l.map ko).foldl putK ks, ws2), wipeR ρ vs) := fun {l} => by
    induction l with
    | nil =>
      intro t1 ks ws _ _ h
      exact ⟨t1, ws, fun x => h (x.resolve_left (fun y => y rfl)), rfl⟩
    | cons a l ih =>
      intro t1 ks ws hm hlen h1
      have h := ht' a (hm a List.mem_cons_self)
      rw [List.map_cons, dictF]
      obtain ⟨k1, k2⟩ := hk a (hm a List.mem_cons_self)
      have kk : kindK t1 ks (ko a) = t := by
        unfold kindK
        cases e : ks.isEmpty with
        | true => simpa using k1
        | false => simpa using h1 e
      unfold DTurn at h
      cases hf : turnDD Γ kx vx g none vs (fi a) (wipeR ρ vs) with
      | bad => rw [hf] at h; exact h.elim
      | err c pl r => rw [hf] at h; exact h.elim
      | ok p =>
        rw [hf] at h
        obtain ⟨y, ρ'⟩ := p
        have h' : ρ' = wipeR ρ vs ∧ y = some (ko a, v) := h
        obtain ⟨rfl, rfl⟩ := h'
        have hlt : ks.length < sizeLine := by
          rw [List.length_cons] at hlen
          omega
        obtain ⟨t2, ws2, g1, g2⟩ := ih (t1 := kindK t1 ks (ko a)) (ks := (putD (ko a) v ks ws).1) (ws := (putD (ko a) v ks ws).2) (fun x hx => hm x (List.mem_cons_of_mem _ hx)) (by
          rw [putD_fst]
          have := @putK_len ks (ko a)
          rw [List.length_cons] at hlen
          omega) (fun _ => kk)
        refine ⟨t2, ws2, fun _ => g1 (.inr (by rw [putD_fst]; exact putK_ne)), ?_⟩
        show (if keyOk (kindK t1 ks (ko a)) (ko a) = true ∧ ks.length < sizeLine then _ else _) = _
        rw [if_pos ⟨by rw [kk]; exact k2, hlt⟩, g2, putD_fst]
        rfl
  obtain ⟨t2, ws2, g1, g2⟩ := key (l := as) (t1 := false) (ks := []) (ws := []) (fun _ h => h) (by simp) (fun h => by cases h)
  rw [g2]
  obtain ⟨ρ2, e2, h3⟩ := unlK_eq q
  simp only [noErr, bind_ok, back_wipe']
  exact .ofO e2 (h3 t2 ws2 fun h => g1 (.inl h))
/-- .. with values -/
def putsP {δ : Type} (ko vo : δ → D) (as : List δ) (p : List D × List D) : List D × List D := as.foldl (fun p a => putD (ko a) (vo a) p.1 p.2) p
theorem DComp_mapV {δ : Type} {kx vx : PI.E} {g : G} {vs : List Nat} {l : List D} {rs : List Nat} {as : List δ} {fi ko vo : δ → D} (t : Bool) (hl : l = as.map fi) (hn : noOwn ρ vs = true) (hz : as.length < sizeLine) (hk : ∀ a ∈ as, tupK (ko a) = t ∧ keyOk t (ko a) = true)
    (ht : wipeK vs ρ fun ρ0 => ∀ a ∈ as, DTurn Γ kx vx g none vs (fi a) ρ0 fun y ρ' => ρ' = ρ0 ∧ y = some (ko a, vo a))
    (q : unlK rs ρ fun ρ3 => ∀ t', (as ≠ [] → t' = t) → Q (.fre (.dic t' (putsP ko vo as ([], [])).1 (putsP ko vo as ([], [])).2)) ρ3) : DComp Γ kx vx g none vs l rs ρ Q := by
  have ht' := wipeK_eq ht
  unfold DComp
  rw [if_pos hn, hl]
  have key : ∀ {l : List δ} {t1 : Bool} {ks ws : List D}, (∀ a ∈ l, a ∈ as) → ks.length + l.length ≤ as.length → (ks.isEmpty = false → t1 = t) → ∃ t2, (l ≠ [] ∨ ks.isEmpty = false → t2 = t) ∧ dictF (turnDD Γ kx vx g none vs) (l.map fi) (wipeR ρ vs) t1 ks ws = .ok ((t2, (putsP ko vo l (ks, ws)).1, (putsP ko vo l (ks, ws)).2), wipeR ρ vs) := fun {l} => by
    induction l with
    | nil =>
      intro t1 ks ws _ _ h
      exact ⟨t1, fun x => h (x.resolve_left (fun y => y rfl)), rfl⟩
    | cons a l ih =>
      intro t1 ks ws hm hlen h1
      have h := ht' a (hm a List.mem_cons_self)
      rw [List.map_cons, dictF]
      obtain ⟨k1, k2⟩ := hk a (hm a List.mem_cons_self)
      have kk : kindK t1 ks (ko a) = t := by
        unfold kindK
        cases e : ks.isEmpty with
        | true => simpa using k1
        | false => simpa using h1 e
      unfold DTurn at h
      cases hf : turnDD Γ kx vx g none vs (fi a) (wipeR ρ vs) with
      | bad => rw [hf] at h; exact h.elim
      | err c pl r => rw [hf] at h; exact h.elim
      | ok p =>
        rw [hf] at h
        obtain ⟨y, ρ'⟩ := p
        have h' : ρ' = wipeR ρ vs ∧ y = some (ko a, vo a) := h
        obtain ⟨rfl, rfl⟩ := h'
        have hlt : ks.length < sizeLine := by
          rw [List.length_cons] at hlen
          omega
        obtain ⟨t2, g1, g2⟩ := ih (t1 := kindK t1 ks (ko a)) (ks := (putD (ko a) (vo a) ks ws).1) (ws := (putD (ko a) (vo a) ks ws).2) (fun x hx => hm x (List.mem_cons_of_mem _ hx)) (by
          rw [putD_fst]
          have := @putK_len ks (ko a)
          rw [List.length_cons] at hlen
          omega) (fun _ => kk)
        refine ⟨t2, fun _ => g1 (.inr (by rw [putD_fst]; exact putK_ne)), ?_⟩
        show (if keyOk (kindK t1 ks (ko a)) (ko a) = true ∧ ks.length < sizeLine then _ else _) = _
        rw [if_pos ⟨by rw [kk]; exact k2, hlt⟩, g2]
        rfl
  obtain ⟨t2, g1, g2⟩ := key (l := as) (t1 := false) (ks := []) (ws := []) (fun _ h => h) (by simp) (fun h => by cases h)
  rw [g2]
  obtain ⟨ρ2, e2, h3⟩ := unlK_eq q
  simp only [noErr, bind_ok, back_wipe']
  exact .ofO e2 (h3 t2 fun h => g1 (.inl h))
theorem puts_uniq {δ : Type} {ko vo : δ → D} : ∀ {as : List δ} {ks ws : List D}, (∀ a ∈ as, ks.any (fun x => x.eqv (ko a)) = false) → as.Pairwise (fun a b => (ko a).eqv (ko b) = false) → putsP ko vo as (ks, ws) = (ks ++ as.map ko, ws ++ as.map vo)
  | [], ks, ws, _, _ => by simp [putsP]
  | a :: as, ks, ws, h1, h2 => by
    obtain ⟨h3, h4⟩ := List.pairwise_cons.mp h2
    have e : putD (ko a) (vo a) ks ws = (ks ++ [ko a], ws ++ [vo a]) := by
      unfold putD
      rw [h1 a List.mem_cons_self]
      rfl
    show putsP ko vo as (putD (ko a) (vo a) ks ws) = _
    rw [e, puts_uniq (fun b hb => ?_) h4]
    · simp
    · rw [List.any_append, h1 b (List.mem_cons_of_mem _ hb)]
      simp [h3 b hb]
theorem look_uniq {δ : Type} {ko vo : δ → D} {a : δ} : ∀ {as : List δ}, as.Pairwise (fun a b => (ko a).eqv (ko b) = false) → a ∈ as → (ko a).eqv (ko a) = true → lookD (as.map ko) (as.map vo) (ko a) = some (vo a)
  | [], _, h, _ => nomatch h
  | b :: as, h1, h2, h3 => by
    obtain ⟨h4, h5⟩ := List.pairwise_cons.mp h1
    rw [List.map_cons, List.map_cons, lookD]
    rcases List.mem_cons.mp h2 with rfl | h2
    · rw [if_pos h3]
    · rw [if_neg (by rw [h4 a h2]; simp)]
      exact look_uniq h5 h2 h3
theorem cm_ninD {x : D} {t : Bool} {ks ws : List D} {K : Bool → Prop} (hk : keyOk (kindK t ks x) x = true) (h : K (!(ks.any fun k => k.eqv x))) : Cm2 .NotIn (some x) (some (.dic t ks ws)) K := by
  refine Cm2_of ?_ h
  show (inD x (.dic t ks ws)).map (!·) = _
  simp only [inD, hk, if_true]
  rfl
theorem cm_inDic {x : D} {t : Bool} {ks ws : List D} {K : Bool → Prop} (hk : keyOk (kindK t ks x) x = true) (h : K (ks.any fun k => k.eqv x)) : Cm2 .In (some x) (some (.dic t ks ws)) K := by
  refine Cm2_of ?_ h
  show inD x (.dic t ks ws) = _
  simp only [inD, hk, if_true]
theorem ix_dic {x z : D} {t : Bool} {ks ws : List D} {K : D → Prop} (hk : keyOk t x = true) (e : lookD ks ws x = some z) (h : K z) : Ixx (some (.dic t ks ws)) (some x) K := by
  refine Ixx_of ?_ h
  simp only [ixD, hk, if_true]
  exact e
theorem bq_lenD {t : Bool} {ks ws : List D} {K : R → Prop} (h : K (.dat (.int ((ks.length : Nat) : Int)))) : Blt .len (some [.dic t ks ws]) K := ⟨_, _, rfl, rfl, h⟩
theorem bq_sortT {ks ws : List D} {nss : List (List Int)} {K : R → Prop} (e : tupsI? ks = some nss) (h : K (.fre (.lst ((srtT nss).map tupI)))) : Blt .sorted (some [.dic true ks ws]) K := by
  refine Blt_of ?_ h
  simp only [bltD, e, Option.map_some]
theorem bq_index {l : List D} {y : D} {j : Nat} {K : R → Prop} (h1 : fit y = true) (h2 : fit (.lst l) = true) (e : findD y l = some j) (h : K (.dat (.int (j : Nat)))) : Blt .index (some [.lst l, y]) K := by
  refine Blt_of ?_ h
  simp only [bltD, h1, h2, e, Bool.and_self, if_true, Option.map_some]
theorem bq_dict {l p : List D} {r : Bool × List D × List D} {K : R → Prop} (e1 : pairsD l = some p) (e2 : putsG false [] [] p = some r) (h : K (.fre (.dic r.1 r.2.1 r.2.2))) : Blt .dict (some [.lst l]) K := by
  refine Blt_of ?_ h
  simp only [bltD, e1, Option.bind_some, e2, Option.map_some]
theorem six_dic {i : Nat} {d y : D} {t : Bool} {ks ws : List D} {K : Rho → Prop} (e : ρ[i]? = some (.own 0 (.dic t ks ws))) (hk : keyOk (kindK t ks y) y = true) (hn : ks.length < sizeLine) (h : setK i (.own 0 (.dic (kindK t ks y) (putD y d ks ws).1 (putD y d ks ws).2)) ρ K) : Six i d (some y) ρ K :=
  ⟨y, rfl, .inr ⟨t, ks, ws, e, hk, hn, h⟩⟩
end
end PI
/-! repr of plain data: when it is told, and how long it is. -/
namespace PI
open PySem
mutual
def D.sz : D → Nat
  | .non => 4
  | .bl _ => 5
  | .int _ => 1921
  | .str x => 10 * x.length + 2
  | .tup xs => D.szs xs + 4
  | .lst xs => D.szs xs + 4
  | _ => 0
def D.szs : List D → Nat
  | [] => 0
  | x :: xs => x.sz + 2 + D.szs xs
end
theorem strApp (a b : Str) : (a ++ b).length = a.length + b.length := strLen_append a b
theorem textFrom_le : ∀ (ts : List Str) (k : Nat) (acc : Str), (textFrom k acc ts).length ≤ acc.length + (ts.map fun t => t.length + 2).sum
  | [], k, acc => by simp [textFrom]
  | t :: r, k, acc => by
    have h := textFrom_le r (k + 1) (acc ++ (if k > 0 then ", " else "" : String) ++ t)
    have e : (acc ++ (if k > 0 then ", " else "" : String) ++ t).length = acc.length + (if k > 0 then 2 else 0) + t.length := by
      rw [strLen_append, strLen_append]
      split <;> rfl
    have e2 : textFrom k acc (t :: r) = textFrom (k + 1) (acc ++ (if k > 0 then ", " else "" : String) ++ t) r := rfl
    rw [e2, List.map_cons, List.sum_cons]
    rw [e] at h
    have e3 : (if k > 0 then 2 else 0 : Nat) ≤ 2 := by split <;> omega
    omega
theorem piled_eq : ∀ ts : List Str, piled ts = (ts.map fun t => t.length + 2).sum
  | [] => rfl
  | t :: r => by
    simp [piled, piled_eq r]
    try omega
mutual
theorem shown_le : ∀ d : D, d.plain = true → d.toPy.showable = true → d.toPy.shown.length ≤ d.sz
  | .non, _, _ => by decide
  | .bl b, _, _ => by cases b <;> decide
  | .int i, _, h => by
    have h' : i.natAbs.log2 < 1920 := by simpa [D.toPy, PyData.showable] using h
    have := PyProof.Rows.int_text_len_1921 h'
    simpa [D.toPy, PyData.shown, D.sz] using this
  | .str x, h, _ => by
    have h' : ∀ c ∈ x.cps.toList, c < 16 ^ 8 := by
      intro c hc
      have : x.cps.all (· < 0x110000) = true := by simpa [D.plain] using h
      have h2 := Array.all_eq_true_iff_forall_mem.mp this c (Array.mem_toList_iff.mp hc)
      have h3 : c < 0x110000 := by simpa using h2
      omega
    have := StrLaws.reprText_len x h'
    simpa [D.toPy, PyData.shown, D.sz] using this
  | .tup xs, h, g => by
    have h' : D.plains xs = true := by simpa [D.plain] using h
    have g' : PyData.showableAll (D.toPys xs) = true := by simpa [D.toPy, PyData.showable] using g
    have ih := shownAll_le xs h' g'
    simp only [D.toPy, PyData.shown, D.sz]
    cases xs with
    | nil => decide
    | cons x xs =>
      have hj := join_length_add (PyData.shownAll (D.toPys (x :: xs))) (by simp [D.toPys, PyData.shownAll])
      rw [piled_eq] at hj
      unfold tupleText
      rw [strLen_append, strLen_append]
      have e1 : (("(" : String) : Str).length = 1 := rfl
      have e2 : ((if (PyData.shownAll (D.toPys (x :: xs))).length == 1 then ",)" else ")" : String) : Str).length ≤ 2 := by split <;> decide
      omega
  | .lst xs, h, g => by
    have h' : D.plains xs = true := by simpa [D.plain] using h
    have g' : PyData.showableAll (D.toPys xs) = true := by simpa [D.toPy, PyData.showable] using g
    have ih := shownAll_le xs h' g'
    simp only [D.toPy, PyData.shown, D.sz]
    unfold listText
    rw [strLen_append]
    have hj := textFrom_le (PyData.shownAll (D.toPys xs)) 0 "["
    have e1 : (("[" : String) : Str).length = 1 := rfl
    have e2 : (("]" : String) : Str).length = 1 := rfl
    omega
  | .dic _ _ _, h, _ => by simp [D.plain] at h
  | .gl _, h, _ => by simp [D.plain] at h
  | .scr _, h, _ => by simp [D.plain] at h
theorem shownAll_le : ∀ xs : List D, D.plains xs = true → PyData.showableAll (D.toPys xs) = true → ((PyData.shownAll (D.toPys xs)).map fun t => t.length + 2).sum ≤ D.szs xs
  | [], _, _ => by simp [D.toPys, PyData.shownAll, D.szs]
  | x :: xs, h, g => by
    have h' : x.plain = true ∧ D.plains xs = true := by simpa [D.plains] using h
    have g' : x.toPy.showable = true ∧ PyData.showableAll (D.toPys xs) = true := by simpa [D.toPys, PyData.showableAll] using g
    have h1 := shown_le x h'.1 g'.1
    have h2 := shownAll_le xs h'.2 g'.2
    simp only [D.toPys, PyData.shownAll, D.szs, List.map_cons, List.sum_cons]
    omega
end
/-- data that repr and == take: plain, not deep, not long -/
structure Rok (d : D) (n k : Nat) : Prop where
  plain : d.plain = true
  dep : d.dep ≤ k
  show_ : d.toPy.showable = true
  sz : d.sz ≤ n
structure Roks (ds : List D) (n k : Nat) : Prop where
  plain : D.plains ds = true
  dep : D.deps ds ≤ k
  show_ : PyData.showableAll (D.toPys ds) = true
  sz : D.szs ds ≤ n
section
variable {n m k : Nat} {ds es : List D} {d : D}
theorem rok_int {i : Int} (h : i.natAbs < 2 ^ 1920) : Rok (.int i) 1921 k := ⟨rfl, Nat.zero_le _, by
  simp only [D.toPy, PyData.showable]
  exact decide_eq_true (log_lt h (by decide)), Nat.le_refl _⟩
theorem rok_nat {a : Nat} (h : a < 2 ^ 1920) : Rok (.int ((a : Nat) : Int)) 1921 k := rok_int (by simpa using h)
theorem small_rok {a : Nat} (h : a < 2 ^ 64) : a < 2 ^ 1920 := Nat.lt_of_lt_of_le h (Nat.pow_le_pow_right (by decide) (by decide))
theorem rok_bl {b : Bool} : Rok (.bl b) 5 k := ⟨rfl, Nat.zero_le _, rfl, Nat.le_refl _⟩
theorem rok_non : Rok .non 4 k := ⟨rfl, Nat.zero_le _, rfl, Nat.le_refl _⟩
theorem rok_str {x : Str} (h : (D.str x).plain = true) : Rok (.str x) (10 * x.length + 2) k := ⟨h, Nat.zero_le _, rfl, Nat.le_refl _⟩
theorem roks_nil : Roks [] 0 k := ⟨rfl, Nat.zero_le _, rfl, Nat.le_refl _⟩
theorem roks_cons (h : Rok d n k) (g : Roks ds m k) : Roks (d :: ds) (n + 2 + m) k := ⟨by simp [D.plains, h.plain, g.plain], by simp only [D.deps]; exact Nat.max_le.mpr ⟨h.dep, g.dep⟩, by simp [D.toPys, PyData.showableAll, h.show_, g.show_], by
  have := h.sz
  have := g.sz
  simp only [D.szs]
  omega⟩
theorem roks_append (h : Roks ds n k) (g : Roks es m k) : Roks (ds ++ es) (n + m) k := by
  induction ds generalizing n with
  | nil => exact ⟨g.plain, g.dep, g.show_, by have := g.sz; simp only [List.nil_append]; omega⟩
  | cons x xs ih =>
    have h1 := h.plain
    have h2 := h.dep
    have h3 := h.show_
    have h4 := h.sz
    simp [D.plains] at h1
    simp only [D.deps] at h2
    have h2 := Nat.max_le.mp h2
    simp [D.toPys, PyData.showableAll] at h3
    simp only [D.szs] at h4
    have i := ih (n := D.szs xs) ⟨h1.2, h2.2, h3.2, Nat.le_refl _⟩
    have i1 := i.plain
    have i2 := i.dep
    have i3 := i.show_
    have i4 := i.sz
    exact ⟨by simp [D.plains, h1.1, i1], by simp only [List.cons_append, D.deps]; exact Nat.max_le.mpr ⟨h2.1, i2⟩, by simp [D.toPys, PyData.showableAll, h3.1, i3], by simp only [List.cons_append, D.szs]; omega⟩
theorem roks_map {α : Type} {f : α → D} : ∀ {as : List α}, (∀ a ∈ as, Rok (f a) n k) → Roks (as.map f) (as.length * (n + 2)) k
  | [], _ => by simpa using roks_nil
  | a :: as, h => by
    have := roks_cons (h a List.mem_cons_self) (roks_map (as := as) fun b hb => h b (List.mem_cons_of_mem _ hb))
    refine ⟨this.plain, this.dep, this.show_, Nat.le_trans this.sz ?_⟩
    rw [List.length_cons, Nat.add_mul]
    omega
theorem roks_dn {as : List Nat} (h : ∀ a ∈ as, a < 2 ^ 1920) : Roks (as.map dn) (as.length * 1923) k := roks_map (n := 1921) fun a ha => rok_nat (h a ha)
theorem rok_tup (h : Roks ds n k) : Rok (.tup ds) (n + 4) (k + 1) := ⟨by simpa [D.plain] using h.plain, by have := h.dep; simp only [D.dep]; omega, by simpa [D.toPy, PyData.showable] using h.show_, by have := h.sz; simp only [D.sz]; omega⟩
theorem rok_lst (h : Roks ds n k) : Rok (.lst ds) (n + 4) (k + 1) := ⟨by simpa [D.plain] using h.plain, by have := h.dep; simp only [D.dep]; omega, by simpa [D.toPy, PyData.showable] using h.show_, by have := h.sz; simp only [D.sz]; omega⟩
theorem fit_of (h : Rok d n 60) : fit d = true := by
  simp [fit, h.plain, h.dep]
theorem bq_repr {K : R → Prop} (h : Rok d n 60) (hd : dsp d = true) (hn : n ≤ 16000000) (q : K (.dat (.str (shw d)))) : Blt .repr (some [d]) K := by
  refine Blt_of ?_ q
  have hs := shown_le d h.plain h.show_
  have hz : (shw d).length ≤ sizeLine := by
    rw [sizeLine_eq]
    unfold shw
    have := h.sz
    omega
  simp only [bltD, hd, h.plain, h.show_, decide_eq_true h.dep, decide_eq_true hz, Bool.and_self, if_true]
/-! ### the signs of such a text -/
def okc (x : Str) : Prop := ∀ c ∈ x.cps.toList, c < 0x110000
theorem char_lt (c : Char) : c.toNat < 0x110000 := by
  have h := c.valid
  have e : c.toNat = c.val.toNat := rfl
  rw [e]
  rcases h with h | ⟨_, h⟩
  · have : c.val.toNat < 0xD800 := h
    omega
  · exact h
theorem okc_of (s : String) : okc (Str.ofString s) := by
  intro c hc
  rw [Str.ofString_eq_toList] at hc
  simp at hc
  obtain ⟨a, _, rfl⟩ := hc
  exact char_lt a
theorem okc_app {a b : Str} (h : okc a) (g : okc b) : okc (a ++ b) := fun c hc => by
  have hc' : c ∈ (a.cps ++ b.cps).toList := hc
  rw [Array.toList_append, List.mem_append] at hc'
  exact hc'.elim (h c) (g c)
theorem okc_text : ∀ (ts : List Str) (k : Nat) (acc : Str), okc acc → (∀ t ∈ ts, okc t) → okc (textFrom k acc ts)
  | [], k, acc, h, _ => h
  | t :: r, k, acc, h, g => okc_text r (k + 1) _ (okc_app (okc_app h (okc_of _)) (g t List.mem_cons_self)) fun x hx => g x (List.mem_cons_of_mem _ hx)
theorem okc_join {sep : Str} (hs : okc sep) : ∀ (ts : List Str), (∀ t ∈ ts, okc t) → okc (Str.join sep ts)
  | [], _ => fun c hc => by
    have hc' : c ∈ (#[] : Array Nat).toList := hc
    simp at hc'
  | [t], g => g t List.mem_cons_self
  | t :: u :: r, g => okc_app (okc_app (g t List.mem_cons_self) hs) (okc_join hs (u :: r) fun x hx => g x (List.mem_cons_of_mem _ hx))
theorem reprChar_ok {q c : Nat} (h : c < 0x110000) : ∀ d ∈ PySem.Builtin.Str.reprChar q c, d < 0x110000 := by
  have hx : ∀ w d, d ∈ List.replicate (w - ((Nat.toDigits 16 c).map Char.toNat).length) 48 ++ (Nat.toDigits 16 c).map Char.toNat → d < 0x110000 := fun w d hd => by
    rcases List.mem_append.mp hd with hd | hd
    · have := List.eq_of_mem_replicate hd
      omega
    · obtain ⟨a, _, rfl⟩ := List.mem_map.mp hd
      exact char_lt a
  intro d hd
  unfold PySem.Builtin.Str.reprChar at hd
  dsimp only at hd
  repeat' split at hd
  all_goals first
    | (simp at hd; omega)
    | (rcases List.mem_append.mp hd with hd | hd
       · simp at hd
         omega
       · exact hx _ d hd)
theorem okc_repr {x : Str} (h : okc x) : okc (reprText x) := by
  have key : ∀ (q : Nat) (l : List Nat) (acc : Array Nat), (∀ c ∈ l, c < 0x110000) → (∀ c ∈ acc.toList, c < 0x110000) → ∀ c ∈ (l.foldl (fun out c => out ++ (PySem.Builtin.Str.reprChar q c).toArray) acc).toList, c < 0x110000 := fun q l => by
    induction l with
    | nil => intro acc _ h; exact h
    | cons d l ih =>
      intro acc h1 h2
      refine ih _ (fun c hc => h1 c (List.mem_cons_of_mem _ hc)) fun c hc => ?_
      rw [Array.toList_append, List.mem_append] at hc
      exact hc.elim (h2 c) fun hc => reprChar_ok (h1 d List.mem_cons_self) c (by simpa using hc)
  have hq : PySem.reprQuote x < 0x110000 := by
    unfold PySem.reprQuote
    split <;> decide
  intro c hc
  unfold reprText at hc
  have hc' : c ∈ ((x.cps.foldl (fun out c => out ++ (PySem.Builtin.Str.reprChar (PySem.reprQuote x) c).toArray) #[PySem.reprQuote x]).push (PySem.reprQuote x)).toList := hc
  rw [Array.toList_push, List.mem_append, ← Array.foldl_toList] at hc'
  rcases hc' with hc | hc
  · exact key _ _ _ h (fun c hc => by simp at hc; subst hc; exact hq) c hc
  · simp at hc
    subst hc
    exact hq
mutual
theorem okc_shown : ∀ d : D, d.plain = true → okc d.toPy.shown
  | .non, _ => okc_of _
  | .bl b, _ => by cases b <;> exact okc_of _
  | .int i, _ => okc_of _
  | .str x, h => okc_repr (x := x) fun c hc => by
      have : x.cps.all (· < 0x110000) = true := by simpa [D.plain] using h
      have h2 := Array.all_eq_true_iff_forall_mem.mp this c (Array.mem_toList_iff.mp hc)
      simpa using h2
  | .tup xs, h => by
    have h' : D.plains xs = true := by simpa [D.plain] using h
    exact okc_app (okc_app (okc_of _) (okc_join (okc_of _) _ (okc_shownAll xs h'))) (okc_of _)
  | .lst xs, h => by
    have h' : D.plains xs = true := by simpa [D.plain] using h
    exact okc_app (okc_text _ _ _ (okc_of _) (okc_shownAll xs h')) (okc_of _)
  | .dic _ _ _, h => by simp [D.plain] at h
  | .gl _, h => by simp [D.plain] at h
  | .scr _, h => by simp [D.plain] at h
theorem okc_shownAll : ∀ xs : List D, D.plains xs = true → ∀ t ∈ PyData.shownAll (D.toPys xs), okc t
  | [], _ => fun t ht => by simp [D.toPys, PyData.shownAll] at ht
  | x :: xs, h => fun t ht => by
    have h' : x.plain = true ∧ D.plains xs = true := by simpa [D.plains] using h
    simp only [D.toPys, PyData.shownAll, List.mem_cons] at ht
    rcases ht with rfl | ht
    · exact okc_shown x h'.1
    · exact okc_shownAll xs h'.2 t ht
end
theorem shw_plain {d : D} (h : d.plain = true) : (D.str (shw d)).plain = true := by
  have := okc_shown d h
  simp only [D.plain]
  refine Array.all_eq_true_iff_forall_mem.mpr fun c hc => ?_
  exact decide_eq_true (this c (Array.mem_toList_iff.mpr hc))
mutual
theorem eqv_refl : ∀ d : D, d.plain = true → d.eqv d = true
  | .non, _ => rfl
  | .bl b, _ => by simp [D.eqv]
  | .int i, _ => by simp [D.eqv]
  | .str x, _ => by simp [D.eqv]
  | .tup xs, h => by
    simp only [D.eqv]
    exact eqvs_refl xs (by simpa [D.plain] using h)
  | .lst xs, h => by
    simp only [D.eqv]
    exact eqvs_refl xs (by simpa [D.plain] using h)
  | .dic _ _ _, h => by simp [D.plain] at h
  | .gl _, h => by simp [D.plain] at h
  | .scr _, h => by simp [D.plain] at h
theorem eqvs_refl : ∀ xs : List D, D.plains xs = true → D.eqvs xs xs = true
  | [], _ => rfl
  | x :: xs, h => by
    have h' : x.plain = true ∧ D.plains xs = true := by simpa [D.plains] using h
    simp only [D.eqvs, eqv_refl x h'.1, eqvs_refl xs h'.2, Bool.and_self]
end
theorem roks_rep {m n k : Nat} {d : D} (h : Rok d n k) : Roks (List.replicate m d) (m * (n + 2)) k := by
  induction m with
  | zero => simpa using roks_nil
  | succ m ih =>
    have := roks_cons h ih
    rw [List.replicate_succ]
    refine ⟨this.plain, this.dep, this.show_, Nat.le_trans this.sz ?_⟩
    rw [Nat.add_mul]
    omega
/-- two of the same kind, seen as the same -/
theorem cm_same {K : Bool → Prop} {d e : D} {n : Nat} (h : d = e) (hn : (match d with | .int _ => false | _ => true) = true) (hd : Rok d n 60) (q : K true) : Cm2 .Eq (some d) (some e) K := by
  subst h
  refine cm_eqD ?_ (fit_of hd) (fit_of hd) ?_
  · cases d <;> first | rfl | cases hn
  · rw [eqv_refl d hd.plain]
    exact q
theorem cm_sameN {K : Bool → Prop} {d e : D} {n : Nat} (h : d = e) (hn : (match d with | .int _ => false | _ => true) = true) (hd : Rok d n 60) (q : K false) : Cm2 .NotEq (some d) (some e) K := by
  subst h
  refine cm_neD ?_ (fit_of hd) (fit_of hd) ?_
  · cases d <;> first | rfl | cases hn
  · rw [eqv_refl d hd.plain]
    exact q
/-- the law's look at two texts of one thing -/
theorem cm_repr {K : Bool → Prop} {d e : D} (h : d = e) (hd : d.plain = true) (q : K false) : Cm2 .NotEq (some (.str (shw d))) (some (.str (shw e))) K := by
  subst h
  have hp := shw_plain hd
  exact cm_neD rfl (by simp [fit, hp, D.dep]) (by simp [fit, hp, D.dep]) (by simpa [D.eqv] using q)
end
end PI
namespace K02
open PySem PI
abbrev top (i : Nat) : Stmt := PySem.Challenge.pw_switchrest_k02_roads_and_rounds.main.body.getD i (.Pass ⟨0, 0, 0, 0⟩)
def cls : List Str := [("NetError" : Str), ("NotNet" : Str), ("NotStanding" : Str), ("NotCube" : Str), ("NotPaper" : Str), ("BadNumber" : Str), ("NoAnswer" : Str), ("TooLarge" : Str)]
def cons : List (Str × D) := [(("MOST_SWITCHES" : Str), .int 8), (("MOST_ROAD" : Str), .int 1000), (("MOST_STEPS" : Str), .int 1000000000000000000000000000000)]
def kinds : List (Str × List D) := [(("_law_kind" : Str), [.str ("!other" : Str), .str ("!net" : Str), .str ("!standing" : Str), .str ("!cube" : Str), .str ("!paper" : Str), .str ("!number" : Str), .str ("!none" : Str), .str ("!large" : Str)])]
def ras : List Nat := [0, 1, 2, 3, 4, 5, 6, 7]
def ancs : List (List Bool) := [[true, false, false, false, false, false, false, false], [true, true, false, false, false, false, false, false], [true, false, true, false, false, false, false, false], [true, false, false, true, false, false, false, false], [true, false, false, false, true, false, false, false], [true, false, false, false, false, true, false, false], [true, false, false, false, false, false, true, false], [true, false, false, false, false, false, false, true]]
def ds : List Dq :=
  ⟨("is_net" : Str), top 11, [("net" : Str), ("n" : Str), ("rules" : Str), ("rule" : Str)], 1, false⟩ ::
  ⟨("check_net" : Str), top 12, [("net" : Str)], 1, false⟩ ::
  ⟨("check_standing" : Str), top 13, [("net" : Str), ("standing" : Str)], 2, false⟩ ::
  ⟨("to_be" : Str), top 14, [("net" : Str), ("standing" : Str), ("switch" : Str), ("rule" : Str)], 2, false⟩ ::
  ⟨("net_of" : Str), top 15, [("n" : Str), ("table" : Str), ("rules" : Str), ("switch" : Str), ("standing" : Str), ("behind" : Str)], 2, false⟩ ::
  ⟨("table_by" : Str), top 16, [("net" : Str), ("standing" : Str)], 1, false⟩ ::
  ⟨("check_steps" : Str), top 20, [("k" : Str), ("most" : Str)], 2, false⟩ ::
  ⟨("road" : Str), top 21, [("net" : Str), ("standing" : Str), ("k" : Str), ("table" : Str), ("found" : Str), ("_" : Str)], 3, false⟩ ::
  ⟨("lead_by" : Str), top 22, [("table" : Str), ("standing" : Str), ("places" : Str), ("here" : Str), ("order" : Str)], 2, false⟩ ::
  ⟨("lead" : Str), top 23, [("net" : Str), ("standing" : Str)], 2, false⟩ ::
  ⟨("length" : Str), top 24, [("net" : Str), ("standing" : Str)], 2, false⟩ ::
  ⟨("powered" : Str), top 25, [("table" : Str), ("t" : Str), ("found" : Str), ("base" : Str), ("entry" : Str)], 2, false⟩ ::
  ⟨("behind" : Str), top 26, [("net" : Str), ("standing" : Str), ("k" : Str)], 3, false⟩ ::
  ⟨("turned" : Str), top 27, [("some" : Str), ("at" : Str)], 1, false⟩ ::
  ⟨("rounds_of" : Str), top 28, [("table" : Str), ("found" : Str), ("standing" : Str)], 1, false⟩ ::
  ⟨("rounds" : Str), top 29, [("net" : Str)], 1, false⟩ ::
  ⟨("basins" : Str), top 30, [("net" : Str), ("table" : Str), ("places" : Str), ("at" : Str), ("some" : Str), ("standing" : Str)], 1, false⟩ ::
  ⟨("unreached" : Str), top 31, [("net" : Str), ("table" : Str), ("known" : Str), ("standing" : Str)], 1, false⟩ ::
  ⟨("leading_to" : Str), top 32, [("net" : Str), ("standing" : Str), ("t" : Str), ("one" : Str), ("entry" : Str)], 3, false⟩ ::
  ⟨("lead_of" : Str), top 33, [("table" : Str), ("standing" : Str)], 1, false⟩ ::
  ⟨("net_lead" : Str), top 34, [("net" : Str)], 1, false⟩ ::
  ⟨("common_multiple" : Str), top 35, [("one" : Str), ("other" : Str), ("low" : Str), ("high" : Str)], 2, false⟩ ::
  ⟨("period" : Str), top 36, [("net" : Str), ("found" : Str), ("some" : Str)], 1, false⟩ ::
  ⟨("one_to_one" : Str), top 37, [("table" : Str), ("standing" : Str)], 1, false⟩ ::
  ⟨("is_one_to_one" : Str), top 38, [("net" : Str)], 1, false⟩ ::
  ⟨("net_back" : Str), top 39, [("net" : Str), ("table" : Str), ("found" : Str), ("standing" : Str), ("entry" : Str)], 1, false⟩ ::
  ⟨("settles" : Str), top 40, [("net" : Str), ("some" : Str)], 1, false⟩ ::
  ⟨("has_one_end" : Str), top 41, [("net" : Str)], 1, false⟩ ::
  ⟨("power" : Str), top 42, [("net" : Str), ("t" : Str)], 2, false⟩ ::
  ⟨("_law_number" : Str), top 44, [("cell" : Str)], 1, false⟩ ::
  ⟨("_law_draws" : Str), top 45, [("script" : Str), ("draws" : Str), ("cell" : Str), ("rest" : Str), ("k" : Str), ("once" : Str), ("twice" : Str)], 1, false⟩ ::
  ⟨("_law_flat" : Str), top 46, [("rows" : Str), ("found" : Str), ("row" : Str)], 1, false⟩ ::
  ⟨("_law_next" : Str), top 47, [("draws" : Str)], 1, true⟩ ::
  ⟨("_law_more" : Str), top 48, [("draws" : Str), ("many" : Str), ("seed" : Str), ("more" : Str), ("k" : Str)], 2, true⟩ ::
  ⟨("_law_pick" : Str), top 49, [("draws" : Str), ("some" : Str)], 2, true⟩ ::
  ⟨("_law_kind" : Str), top 50, [("error" : Str), ("names" : Str), ("found" : Str)], 1, false⟩ ::
  ⟨("_law_power" : Str), top 51, [("at" : Str), ("found" : Str), ("turn" : Str)], 1, false⟩ ::
  ⟨("_law_on" : Str), top 52, [("standing" : Str), ("switch" : Str)], 2, false⟩ ::
  ⟨("_law_table" : Str), top 53, [("net" : Str), ("n" : Str), ("rules" : Str), ("standing" : Str), ("switch" : Str)], 1, false⟩ ::
  ⟨("_law_net_of" : Str), top 54, [("n" : Str), ("table" : Str), ("switch" : Str), ("standing" : Str)], 2, false⟩ ::
  ⟨("_law_literal" : Str), top 55, [("draws" : Str), ("n" : Str), ("switch" : Str)], 2, true⟩ ::
  ⟨("_law_net" : Str), top 56, [("draws" : Str), ("most" : Str), ("n" : Str), ("kind" : Str), ("size" : Str), ("rules" : Str), ("switch" : Str), ("parts" : Str), ("way" : Str), ("told" : Str), ("standing" : Str), ("held" : Str), ("turn" : Str), ("part" : Str)], 2, true⟩ ::
  ⟨("_law_road" : Str), top 57, [("table" : Str), ("standing" : Str), ("k" : Str), ("found" : Str), ("turn" : Str)], 3, false⟩ ::
  ⟨("_law_lead" : Str), top 58, [("table" : Str), ("standing" : Str), ("found" : Str), ("k" : Str), ("l" : Str)], 2, false⟩ ::
  ⟨("_law_round" : Str), top 59, [("table" : Str), ("standing" : Str), ("found" : Str), ("at" : Str), ("k" : Str), ("l" : Str)], 2, false⟩ ::
  ⟨("_law_multiple" : Str), top 60, [("numbers" : Str), ("found" : Str), ("number" : Str), ("more" : Str)], 1, false⟩ ::
  ⟨("_law_asked" : Str), top 61, [("way" : Str), ("net" : Str), ("one" : Str), ("two" : Str), ("error" : Str)], 4, false⟩ ::
  ⟨("law" : Str), top 62, [("script" : Str), ("draws" : Str), ("net" : Str), ("n" : Str), ("table" : Str), ("every" : Str), ("found" : Str), ("leads" : Str), ("one" : Str), ("due" : Str), ("great" : Str), ("near" : Str), ("walked" : Str), ("bad" : Str), ("told" : Str), ("standings" : Str), ("numbers" : Str), ("standing" : Str), ("k" : Str), ("t" : Str), ("there" : Str), ("ends" : Str), ("answers" : Str), ("way" : Str), ("road_now" : Str), ("entry" : Str), ("some" : Str)], 1, false⟩ :: []
def nm : Nm := nmOf ds cls cons kinds ras
def pg : Pg := mkPg nm ds ancs
def left : List Str := ds.filterMap fun d => if (d.tr nm).isNone then some d.x else none
end K02
namespace K02
open PySem PI
abbrev ix_is_net : Nat := 0
abbrev ix_check_net : Nat := 1
abbrev ix_check_standing : Nat := 2
abbrev ix_to_be : Nat := 3
abbrev ix_net_of : Nat := 4
abbrev ix_table_by : Nat := 5
abbrev ix_check_steps : Nat := 6
abbrev ix_road : Nat := 7
abbrev ix_lead_by : Nat := 8
abbrev ix_lead : Nat := 9
abbrev ix_length : Nat := 10
abbrev ix_powered : Nat := 11
abbrev ix_behind : Nat := 12
abbrev ix_turned : Nat := 13
abbrev ix_rounds_of : Nat := 14
abbrev ix_rounds : Nat := 15
abbrev ix_basins : Nat := 16
abbrev ix_unreached : Nat := 17
abbrev ix_leading_to : Nat := 18
abbrev ix_lead_of : Nat := 19
abbrev ix_net_lead : Nat := 20
abbrev ix_common_multiple : Nat := 21
abbrev ix_period : Nat := 22
abbrev ix_one_to_one : Nat := 23
abbrev ix_is_one_to_one : Nat := 24
abbrev ix_net_back : Nat := 25
abbrev ix_settles : Nat := 26
abbrev ix_has_one_end : Nat := 27
abbrev ix_power : Nat := 28
abbrev ix_law_number : Nat := 29
abbrev ix_law_draws : Nat := 30
abbrev ix_law_flat : Nat := 31
abbrev ix_law_next : Nat := 32
abbrev ix_law_more : Nat := 33
abbrev ix_law_pick : Nat := 34
abbrev ix_law_kind : Nat := 35
abbrev ix_law_power : Nat := 36
abbrev ix_law_on : Nat := 37
abbrev ix_law_table : Nat := 38
abbrev ix_law_net_of : Nat := 39
abbrev ix_law_literal : Nat := 40
abbrev ix_law_net : Nat := 41
abbrev ix_law_road : Nat := 42
abbrev ix_law_lead : Nat := 43
abbrev ix_law_round : Nat := 44
abbrev ix_law_multiple : Nat := 45
abbrev ix_law_asked : Nat := 46
abbrev ix_law : Nat := 47
abbrev b_is_net : List S := [.asg (.tup [(.name 1), (.name 2)]) (.var 0), .ite (.or (.not (.chain .LtE .LtE (.con (.int (1 : Nat))) (.var 1) (.con (.int (8 : Nat))))) (.cmp .NotEq (.blt .len [(.var 2)]) (.var 1))) [.ret (.con (.bl false))] [], .ret (.blt .all [(.comp (.chain .LtE .Lt (.con (.int (0 : Nat))) (.var 3) (.op .LShift (.con (.int (1 : Nat))) (.op .LShift (.con (.int (1 : Nat))) (.var 1)))) (.name 3) (.seq (.var 2)) none [3])])]
abbrev b_check_net : List S := [.ite (.not (.call ix_is_net [(.var 0)])) [.raise 1 []] []]
abbrev b_check_standing : List S := [.ex (.call ix_check_net [(.var 0)]), .ite (.not (.chain .LtE .Lt (.con (.int (0 : Nat))) (.var 1) (.op .LShift (.con (.int (1 : Nat))) (.ix (.var 0) (.con (.int (0 : Nat))))))) [.raise 2 []] []]
abbrev b_to_be : List S := [.ret (.blt .sum [(.comp (.op .LShift (.op .Mod (.op .RShift (.var 3) (.var 1)) (.con (.int (2 : Nat)))) (.var 2)) (.tup [(.name 2), (.name 3)]) (.enum (.ix (.var 0) (.con (.int (1 : Nat))))) none [2, 3])])]
abbrev b_net_of : List S := [.asg (.name 2) (.lst []), .for_ (.name 3) (.rng1 (.var 0)) [.ex (.mut .append 2 [(.blt .sum [(.comp (.op .LShift (.op .Mod (.op .RShift (.var 5) (.var 3)) (.con (.int (2 : Nat)))) (.var 4)) (.tup [(.name 4), (.name 5)]) (.enum (.var 1)) none [4, 5])])])], .ret (.tup [(.var 0), (.blt .tuple [(.var 2)])])]
abbrev b_table_by : List S := [.ret (.comp (.call ix_to_be [(.var 0), (.var 1)]) (.name 1) (.rng1 (.op .LShift (.con (.int (1 : Nat))) (.ix (.var 0) (.con (.int (0 : Nat)))))) none [1])]
abbrev b_check_steps : List S := [.ite (.not (.chain .LtE .LtE (.con (.int (0 : Nat))) (.var 0) (.var 1))) [.raise 5 []] []]
abbrev b_road : List S := [.ex (.call ix_check_standing [(.var 0), (.var 1)]), .ex (.call ix_check_steps [(.var 2), (.con (.int (1000 : Nat)))]), .asg (.name 3) (.call ix_table_by [(.var 0)]), .asg (.name 4) (.lst [(.var 1)]), .for_ (.name 5) (.rng1 (.var 2)) [.ex (.mut .append 4 [(.ix (.var 3) (.ix (.var 4) (.un .USub (.con (.int (1 : Nat))))))])], .ret (.blt .tuple [(.var 4)])]
abbrev b_lead_by : List S := [.asg (.name 2) .dnew, .asg (.name 3) (.var 1), .asg (.name 4) (.lst []), .whl (.cmp .NotIn (.var 3) (.var 2)) [.setix 2 (.var 3) (.blt .len [(.var 4)]), .ex (.mut .append 4 [(.var 3)]), .asg (.name 3) (.ix (.var 0) (.var 3))], .ret (.tup [(.ix (.var 2) (.var 3)), (.sl (.var 4) (some (.ix (.var 2) (.var 3))) none)])]
abbrev b_lead : List S := [.ex (.call ix_check_standing [(.var 0), (.var 1)]), .ret (.ix (.call ix_lead_by [(.call ix_table_by [(.var 0)]), (.var 1)]) (.con (.int (0 : Nat))))]
abbrev b_length : List S := [.ex (.call ix_check_standing [(.var 0), (.var 1)]), .ret (.blt .len [(.ix (.call ix_lead_by [(.call ix_table_by [(.var 0)]), (.var 1)]) (.con (.int (1 : Nat))))])]
abbrev b_powered : List S := [.asg (.name 2) (.rngL false (.con (.int (0 : Nat))) (.blt .len [(.var 0)])), .asg (.name 3) (.blt .list [(.var 0)]), .whl (.var 1) [.ite (.cmp .Eq (.op .Mod (.var 1) (.con (.int (2 : Nat)))) (.con (.int (1 : Nat)))) [.asg (.name 2) (.comp (.ix (.var 3) (.var 4)) (.name 4) (.seq (.var 2)) none [4])] [], .asg (.name 3) (.comp (.ix (.var 3) (.var 4)) (.name 4) (.seq (.var 3)) none [4]), .aug 1 .FloorDiv (.con (.int (2 : Nat)))], .ret (.var 2)]
abbrev b_behind : List S := [.ex (.call ix_check_standing [(.var 0), (.var 1)]), .ex (.call ix_check_steps [(.var 2), (.con (.int (1000000000000000000000000000000 : Nat)))]), .ret (.ix (.call ix_powered [(.call ix_table_by [(.var 0)]), (.var 2)]) (.var 1))]
abbrev b_turned : List S := [.asg (.name 1) (.mth .index (.var 0) [(.blt .min [(.var 0)])]), .ret (.blt .tuple [(.spl false [(.sl (.var 0) (some (.var 1)) none), (.sl (.var 0) none (some (.var 1)))] [true, true])])]
abbrev b_rounds_of : List S := [.asg (.name 1) (.dcomp (.call ix_turned [(.ix (.call ix_lead_by [(.var 0), (.var 2)]) (.con (.int (1 : Nat))))]) (.con (.bl true)) (.name 2) (.rng1 (.blt .len [(.var 0)])) none [2]), .ret (.blt .sorted [(.var 1)])]
abbrev b_rounds : List S := [.ex (.call ix_check_net [(.var 0)]), .ret (.call ix_rounds_of [(.call ix_table_by [(.var 0)])])]
abbrev b_basins : List S := [.ex (.call ix_check_net [(.var 0)]), .asg (.name 1) (.call ix_table_by [(.var 0)]), .asg (.name 2) (.dcomp (.var 4) (.var 3) (.tup [(.name 3), (.name 4)]) (.enum (.call ix_rounds_of [(.var 1)])) none [3, 4]), .ret (.blt .tuple [(.comp (.ix (.var 2) (.call ix_turned [(.ix (.call ix_lead_by [(.var 1), (.var 5)]) (.con (.int (1 : Nat))))])) (.name 5) (.rng1 (.blt .len [(.var 1)])) none [5])])]
abbrev b_unreached : List S := [.ex (.call ix_check_net [(.var 0)]), .asg (.name 1) (.call ix_table_by [(.var 0)]), .asg (.name 2) (.dcomp (.var 3) (.con (.bl true)) (.name 3) (.seq (.var 1)) none [3]), .ret (.blt .tuple [(.comp (.var 3) (.name 3) (.rng1 (.blt .len [(.var 1)])) (some (.cmp .NotIn (.var 3) (.var 2))) [3])])]
abbrev b_leading_to : List S := [.ex (.call ix_check_standing [(.var 0), (.var 1)]), .ex (.call ix_check_steps [(.var 2), (.con (.int (1000000000000000000000000000000 : Nat)))]), .ret (.blt .tuple [(.comp (.var 3) (.tup [(.name 3), (.name 4)]) (.enum (.call ix_powered [(.call ix_table_by [(.var 0)]), (.var 2)])) (some (.cmp .Eq (.var 4) (.var 1))) [3, 4])])]
abbrev b_lead_of : List S := [.ret (.blt .max [(.comp (.ix (.call ix_lead_by [(.var 0), (.var 1)]) (.con (.int (0 : Nat)))) (.name 1) (.rng1 (.blt .len [(.var 0)])) none [1])])]
abbrev b_net_lead : List S := [.ex (.call ix_check_net [(.var 0)]), .ret (.call ix_lead_of [(.call ix_table_by [(.var 0)])])]
abbrev b_common_multiple : List S := [.par [2, 3] [(.var 0), (.var 1)], .whl (.var 3) [.par [2, 3] [(.var 3), (.op .Mod (.var 2) (.var 3))]], .ret (.op .Mult (.op .FloorDiv (.var 0) (.var 2)) (.var 1))]
abbrev b_period : List S := [.ex (.call ix_check_net [(.var 0)]), .asg (.name 1) (.con (.int (1 : Nat))), .for_ (.name 2) (.seq (.call ix_rounds_of [(.call ix_table_by [(.var 0)])])) [.asg (.name 1) (.call ix_common_multiple [(.var 1), (.blt .len [(.var 2)])])], .ret (.var 1)]
abbrev b_one_to_one : List S := [.ret (.cmp .Eq (.blt .len [(.dcomp (.var 1) (.con (.bl true)) (.name 1) (.seq (.var 0)) none [1])]) (.blt .len [(.var 0)]))]
abbrev b_is_one_to_one : List S := [.ex (.call ix_check_net [(.var 0)]), .ret (.call ix_one_to_one [(.call ix_table_by [(.var 0)])])]
abbrev b_net_back : List S := [.ex (.call ix_check_net [(.var 0)]), .asg (.name 1) (.call ix_table_by [(.var 0)]), .ite (.not (.call ix_one_to_one [(.var 1)])) [.raise 6 []] [], .asg (.name 2) (.op .Mult (.lst [(.con (.int (0 : Nat)))]) (.blt .len [(.var 1)])), .for_ (.tup [(.name 3), (.name 4)]) (.enum (.var 1)) [.setix 2 (.var 4) (.var 3)], .ret (.call ix_net_of [(.ix (.var 0) (.con (.int (0 : Nat)))), (.var 2)])]
abbrev b_settles : List S := [.ex (.call ix_check_net [(.var 0)]), .ret (.blt .all [(.comp (.cmp .Eq (.blt .len [(.var 1)]) (.con (.int (1 : Nat)))) (.name 1) (.seq (.call ix_rounds_of [(.call ix_table_by [(.var 0)])])) none [1])])]
abbrev b_has_one_end : List S := [.ex (.call ix_check_net [(.var 0)]), .ret (.cmp .Eq (.blt .len [(.call ix_rounds_of [(.call ix_table_by [(.var 0)])])]) (.con (.int (1 : Nat))))]
abbrev b_power : List S := [.ex (.call ix_check_net [(.var 0)]), .ex (.call ix_check_steps [(.var 1), (.con (.int (1000000000000000000000000000000 : Nat)))]), .ret (.call ix_net_of [(.ix (.var 0) (.con (.int (0 : Nat)))), (.call ix_powered [(.call ix_table_by [(.var 0)]), (.var 1)])])]
abbrev b_law_number : List S := [.ite (.cmp .Lt (.var 0) (.con (.int (0 : Nat)))) [.ret (.op .Sub (.con (.int (0 : Nat))) (.var 0))] [], .ret (.var 0)]
abbrev b_law_draws : List S := [.asg (.name 1) (.lst []), .for_ (.name 2) (.seq (.var 0)) [.asg (.name 3) (.call ix_law_number [(.var 2)]), .ite (.cmp .GtE (.var 3) (.con (.int (1000000000000000000 : Nat)))) [.for_ (.name 4) (.rng1 (.con (.int (60 : Nat)))) [.ite (.cmp .Eq (.var 3) (.con (.int (0 : Nat)))) [.brk] [], .ex (.mut .append 1 [(.op .Mod (.blt .int [(.var 3)]) (.con (.int (1000 : Nat))))]), .asg (.name 3) (.op .FloorDiv (.var 3) (.con (.int (1000 : Nat))))]] [.asg (.name 5) (.op .Mod (.blt .int [(.op .Add (.op .Mult (.var 3) (.con (.int (48271 : Nat)))) (.con (.int (11 : Nat))))]) (.con (.int (2147483647 : Nat)))), .asg (.name 6) (.op .Mod (.blt .int [(.op .Add (.op .Mult (.var 5) (.con (.int (69621 : Nat)))) (.var 3))]) (.con (.int (2147483629 : Nat)))), .ex (.mut .extend 1 [(.lst [(.op .Mod (.blt .int [(.var 3)]) (.con (.int (1000 : Nat)))), (.op .Mod (.blt .int [(.var 5)]) (.con (.int (1000 : Nat)))), (.op .Mod (.blt .int [(.var 6)]) (.con (.int (1000 : Nat))))])])]], .ex (.mut .reverse 1 []), .ret (.var 1)]
abbrev b_law_flat : List S := [.asg (.name 1) (.lst []), .for_ (.name 2) (.seq (.var 0)) [.ex (.mut .extend 1 [(.var 2)])], .ret (.var 1)]
abbrev b_law_next : List S := [.ite (.var 0) [.ret (.mut .pop 0 [])] [], .ret (.con (.int (0 : Nat)))]
abbrev b_law_more : List S := [.asg (.name 2) (.op .Add (.op .Add (.op .Mult (.con (.int (1000 : Nat))) (.callio ix_law_next 0 [])) (.callio ix_law_next 0 [])) (.con (.int (1 : Nat)))), .asg (.name 3) (.lst []), .for_ (.name 4) (.rng1 (.var 1)) [.asg (.name 2) (.op .Mod (.blt .int [(.op .Add (.op .Mult (.var 2) (.con (.int (48271 : Nat)))) (.con (.int (12345 : Nat))))]) (.con (.int (2147483647 : Nat)))), .ex (.mut .append 3 [(.op .Mod (.blt .int [(.op .FloorDiv (.var 2) (.con (.int (7 : Nat))))]) (.con (.int (1000 : Nat))))])], .ret (.op .Add (.var 3) (.var 0))]
abbrev b_law_pick : List S := [.ret (.ix (.var 1) (.op .Mod (.blt .int [(.callio ix_law_next 0 [])]) (.blt .len [(.var 1)])))]
abbrev b_law_kind : List S := [.brk]
abbrev b_law_power : List S := [.asg (.name 1) (.con (.int (1 : Nat))), .for_ (.name 2) (.rng1 (.var 0)) [.asg (.name 1) (.op .Mult (.con (.int (2 : Nat))) (.var 1))], .ret (.var 1)]
abbrev b_law_on : List S := [.ret (.op .Mod (.blt .int [(.op .FloorDiv (.var 0) (.call ix_law_power [(.var 1)]))]) (.con (.int (2 : Nat))))]
abbrev b_law_table : List S := [.asg (.tup [(.name 1), (.name 2)]) (.var 0), .ret (.comp (.blt .sum [(.comp (.op .Mult (.call ix_law_on [(.ix (.var 2) (.var 4)), (.var 3)]) (.call ix_law_power [(.var 4)])) (.name 4) (.rng1 (.var 1)) none [4])]) (.name 3) (.rng1 (.call ix_law_power [(.var 1)])) none [3])]
abbrev b_law_net_of : List S := [.ret (.tup [(.var 0), (.blt .tuple [(.comp (.blt .sum [(.comp (.op .Mult (.call ix_law_on [(.ix (.var 1) (.var 3)), (.var 2)]) (.call ix_law_power [(.var 3)])) (.name 3) (.rng1 (.call ix_law_power [(.var 0)])) none [3])]) (.name 2) (.rng1 (.var 0)) none [2])])])]
abbrev b_law_literal : List S := [.asg (.name 2) (.op .Mod (.blt .int [(.callio ix_law_next 0 [])]) (.var 1)), .ret (.lst [(.var 2), (.op .Mod (.blt .int [(.callio ix_law_next 0 [])]) (.con (.int (2 : Nat))))])]
abbrev b_law_net : List S := [.asg (.name 2) (.op .Add (.con (.int (1 : Nat))) (.op .Mod (.blt .int [(.callio ix_law_next 0 [])]) (.var 1))), .asg (.name 3) (.op .Mod (.blt .int [(.callio ix_law_next 0 [])]) (.con (.int (4 : Nat)))), .asg (.name 4) (.call ix_law_power [(.var 2)]), .ite (.cmp .Eq (.var 3) (.con (.int (0 : Nat)))) [.ret (.call ix_law_net_of [(.var 2), (.comp (.op .Mod (.blt .int [(.op .Add (.op .Mult (.con (.int (1000 : Nat))) (.callio ix_law_next 0 [])) (.callio ix_law_next 0 []))]) (.var 4)) (.name 10) (.rng1 (.var 4)) none [10])])] [], .asg (.name 5) (.lst []), .for_ (.name 6) (.rng1 (.var 2)) [.asg (.name 7) (.comp (.callio ix_law_literal 0 [(.var 2)]) (.name 12) (.rng1 (.op .Add (.con (.int (1 : Nat))) (.op .Mod (.blt .int [(.callio ix_law_next 0 [])]) (.con (.int (3 : Nat)))))) none [12]), .asg (.name 8) (.ite (.cmp .Lt (.var 3) (.con (.int (3 : Nat)))) (.op .Mod (.blt .int [(.callio ix_law_next 0 [])]) (.con (.int (3 : Nat)))) (.op .Mod (.blt .int [(.callio ix_law_next 0 [])]) (.con (.int (2 : Nat))))), .asg (.name 9) (.lst []), .for_ (.name 10) (.rng1 (.var 4)) [.asg (.name 11) (.comp (.blt .int [(.cmp .NotEq (.call ix_law_on [(.var 10), (.ix (.var 13) (.con (.int (0 : Nat))))]) (.op .Mult (.ix (.var 13) (.con (.int (1 : Nat)))) (.blt .int [(.cmp .Lt (.var 3) (.con (.int (3 : Nat))))])))]) (.name 13) (.seq (.var 7)) none [13]), .ex (.mut .append 9 [(.ix (.lst [(.blt .min [(.var 11)]), (.blt .max [(.var 11)]), (.op .Mod (.blt .int [(.blt .sum [(.var 11)])]) (.con (.int (2 : Nat))))]) (.var 8))])], .ex (.mut .append 5 [(.blt .sum [(.comp (.op .Mult (.ix (.var 9) (.var 10)) (.call ix_law_power [(.var 10)])) (.name 10) (.rng1 (.var 4)) none [10])])])], .ret (.tup [(.var 2), (.blt .tuple [(.var 5)])])]
abbrev b_law_road : List S := [.asg (.name 3) (.lst [(.var 1)]), .for_ (.name 4) (.rng1 (.var 2)) [.ex (.mut .append 3 [(.ix (.var 0) (.ix (.var 3) (.un .USub (.con (.int (1 : Nat))))))])], .ret (.var 3)]
abbrev b_law_lead : List S := [.asg (.name 2) (.call ix_law_road [(.var 0), (.var 1), (.op .Mult (.con (.int (2 : Nat))) (.blt .len [(.var 0)]))]), .for_ (.name 3) (.rng1 (.op .Add (.blt .len [(.var 0)]) (.con (.int (1 : Nat))))) [.for_ (.name 4) (.rng2 (.con (.int (1 : Nat))) (.op .Add (.blt .len [(.var 0)]) (.con (.int (1 : Nat))))) [.ite (.cmp .Eq (.ix (.var 2) (.var 3)) (.ix (.var 2) (.op .Add (.var 3) (.var 4)))) [.ret (.lst [(.var 3), (.var 4)])] []]], .ret (.con .non)]
abbrev b_law_round : List S := [.asg (.tup [(.name 4), (.name 5)]) (.call ix_law_lead [(.var 0), (.var 1)]), .asg (.name 2) (.sl (.call ix_law_road [(.var 0), (.var 1), (.op .Add (.var 4) (.var 5))]) (some (.var 4)) (some (.op .Add (.var 4) (.var 5)))), .asg (.name 3) (.mth .index (.var 2) [(.blt .min [(.var 2)])]), .ret (.blt .tuple [(.op .Add (.sl (.var 2) (some (.var 3)) none) (.sl (.var 2) none (some (.var 3))))])]
abbrev b_law_multiple : List S := [.asg (.name 1) (.con (.int (1 : Nat))), .for_ (.name 2) (.seq (.var 0)) [.asg (.name 1) (.ix (.comp (.op .Mult (.var 1) (.var 3)) (.name 3) (.rng2 (.con (.int (1 : Nat))) (.op .Add (.var 2) (.con (.int (1 : Nat))))) (some (.cmp .Eq (.op .Mod (.blt .int [(.op .Mult (.var 1) (.var 3))]) (.var 2)) (.con (.int (0 : Nat))))) [3]) (.con (.int (0 : Nat))))], .ret (.var 1)]
abbrev b_law_asked : List S := [.tryk [.ite (.cmp .Lt (.var 0) (.con (.int (9 : Nat)))) [.ret (.menu [ix_rounds, ix_basins, ix_unreached, ix_net_lead, ix_period, ix_is_one_to_one, ix_net_back, ix_settles, ix_has_one_end] (.var 0) [(.var 1)])] [], .ite (.cmp .Lt (.var 0) (.con (.int (12 : Nat)))) [.ret (.menu [ix_lead, ix_length, ix_power] (.op .Sub (.var 0) (.con (.int (9 : Nat)))) [(.var 1), (.var 2)])] [], .ret (.menu [ix_road, ix_behind, ix_leading_to] (.op .Sub (.var 0) (.con (.int (12 : Nat)))) [(.var 1), (.var 2), (.var 3)])] 0 [(.str ("!other" : Str)), (.str ("!net" : Str)), (.str ("!standing" : Str)), (.str ("!cube" : Str)), (.str ("!paper" : Str)), (.str ("!number" : Str)), (.str ("!none" : Str)), (.str ("!large" : Str))]]
abbrev b_law : List S := [.asg (.name 1) (.call ix_law_draws [(.var 0)]), .asg (.name 1) (.callio ix_law_more 1 [(.con (.int (120 : Nat)))]), .ite (.cmp .NotEq (.blt .repr [(.lst [(.call ix_rounds [(.tup [(.con (.int (2 : Nat))), (.tup [(.con (.int (12 : Nat))), (.con (.int (5 : Nat)))])])]), (.call ix_period [(.tup [(.con (.int (2 : Nat))), (.tup [(.con (.int (12 : Nat))), (.con (.int (5 : Nat)))])])]), (.call ix_net_lead [(.tup [(.con (.int (2 : Nat))), (.tup [(.con (.int (10 : Nat))), (.con (.int (5 : Nat)))])])]), (.call ix_rounds [(.tup [(.con (.int (2 : Nat))), (.tup [(.con (.int (10 : Nat))), (.con (.int (5 : Nat)))])])]), (.call ix_settles [(.tup [(.con (.int (2 : Nat))), (.tup [(.con (.int (10 : Nat))), (.con (.int (5 : Nat)))])])])])]) (.blt .repr [(.lst [(.lst [(.tup [(.con (.int (0 : Nat))), (.con (.int (2 : Nat))), (.con (.int (3 : Nat))), (.con (.int (1 : Nat)))])]), (.con (.int (4 : Nat))), (.con (.int (1 : Nat))), (.lst [(.tup [(.con (.int (1 : Nat)))]), (.tup [(.con (.int (2 : Nat)))])]), (.con (.bl true))])])) [.ret (.con (.bl false))] [], .asg (.name 2) (.callio ix_law_net 1 [(.con (.int (4 : Nat)))]), .asg (.name 3) (.ix (.var 2) (.con (.int (0 : Nat)))), .asg (.name 4) (.call ix_law_table [(.var 2)]), .asg (.name 5) (.rngV (.con (.int (0 : Nat))) (.blt .len [(.var 4)])), .asg (.name 6) (.blt .sorted [(.blt .dict [(.comp (.tup [(.call ix_law_round [(.var 4), (.var 17)]), (.con (.bl true))]) (.name 17) (.seq (.var 5)) none [17])])]), .asg (.name 7) (.comp (.call ix_law_lead [(.var 4), (.var 17)]) (.name 17) (.seq (.var 5)) none [17]), .asg (.name 8) (.cmp .Eq (.blt .len [(.blt .dict [(.comp (.tup [(.var 25), (.con (.bl true))]) (.name 25) (.seq (.var 4)) none [25])])]) (.blt .len [(.var 4)])), .asg (.name 9) (.lst [(.var 6), (.blt .tuple [(.comp (.mth .index (.var 6) [(.call ix_law_round [(.var 4), (.var 17)])]) (.name 17) (.seq (.var 5)) none [17])]), (.blt .tuple [(.comp (.var 17) (.name 17) (.seq (.var 5)) (some (.cmp .NotIn (.var 17) (.var 4))) [17])])]), .asg (.name 9) (.op .Add (.var 9) (.lst [(.blt .max [(.comp (.ix (.var 14) (.con (.int (0 : Nat)))) (.name 14) (.seq (.var 7)) none [14])]), (.call ix_law_multiple [(.comp (.blt .len [(.var 26)]) (.name 26) (.seq (.var 6)) none [26])]), (.var 8)])), .ex (.mut .append 9 [(.ite (.var 8) (.call ix_law_net_of [(.var 3), (.comp (.mth .index (.var 4) [(.var 17)]) (.name 17) (.seq (.var 5)) none [17])]) (.con (.str ("!none" : Str))))]), .asg (.name 9) (.op .Add (.var 9) (.lst [(.cmp .Eq (.blt .max [(.comp (.blt .len [(.var 26)]) (.name 26) (.seq (.var 6)) none [26])]) (.con (.int (1 : Nat)))), (.cmp .Eq (.blt .len [(.var 6)]) (.con (.int (1 : Nat))))])), .ite (.cmp .NotEq (.blt .repr [(.comp (.call ix_law_asked [(.var 23), (.var 2), (.con .non), (.con .non)]) (.name 23) (.rng1 (.con (.int (9 : Nat)))) none [23])]) (.blt .repr [(.var 9)])) [.ret (.con (.bl false))] [], .par [17, 18] [(.op .Mod (.blt .int [(.callio ix_law_next 1 [])]) (.blt .len [(.var 4)])), (.op .Mod (.blt .int [(.callio ix_law_next 1 [])]) (.con (.int (60 : Nat))))], .asg (.name 10) (.callio ix_law_pick 1 [(.lst [(.op .Pow (.con (.int (10 : Nat))) (.con (.int (30 : Nat)))), (.op .Add (.op .Pow (.con (.int (10 : Nat))) (.con (.int (18 : Nat)))) (.blt .int [(.callio ix_law_next 1 [])])), (.con (.int (5000 : Nat)))])]), .asg (.name 11) (.op .Add (.ix (.var 9) (.con (.int (3 : Nat)))) (.op .Mod (.blt .int [(.op .Sub (.var 10) (.ix (.var 9) (.con (.int (3 : Nat)))))]) (.ix (.var 9) (.con (.int (4 : Nat)))))), .asg (.name 12) (.comp (.call ix_law_road [(.var 4), (.var 8), (.blt .max [(.var 18), (.var 11)])]) (.name 8) (.seq (.var 5)) none [8]), .ite (.cmp .NotEq (.blt .repr [(.lst [(.call ix_law_asked [(.con (.int (9 : Nat))), (.var 2), (.var 17), (.con .non)]), (.call ix_law_asked [(.con (.int (10 : Nat))), (.var 2), (.var 17), (.con .non)]), (.call ix_law_asked [(.con (.int (12 : Nat))), (.var 2), (.var 17), (.var 18)])])]) (.blt .repr [(.op .Add (.ix (.var 7) (.var 17)) (.lst [(.blt .tuple [(.sl (.ix (.var 12) (.var 17)) none (some (.op .Add (.var 18) (.con (.int (1 : Nat))))))])]))])) [.ret (.con (.bl false))] [], .for_ (.tup [(.name 19), (.name 20)]) (.seq (.lst [(.tup [(.var 18), (.var 18)]), (.tup [(.var 10), (.var 11)])])) [.asg (.name 21) (.comp (.ix (.var 24) (.var 20)) (.name 24) (.seq (.var 12)) none [24]), .asg (.name 22) (.lst [(.call ix_law_asked [(.con (.int (11 : Nat))), (.var 2), (.var 19), (.con .non)]), (.call ix_law_asked [(.con (.int (13 : Nat))), (.var 2), (.var 17), (.var 19)]), (.call ix_law_asked [(.con (.int (14 : Nat))), (.var 2), (.var 17), (.var 19)])]), .ite (.cmp .NotEq (.blt .repr [(.var 22)]) (.blt .repr [(.lst [(.call ix_law_net_of [(.var 3), (.var 21)]), (.ix (.var 21) (.var 17)), (.blt .tuple [(.comp (.var 8) (.name 8) (.seq (.var 5)) (some (.cmp .Eq (.ix (.var 21) (.var 8)) (.var 17))) [8])])])])) [.ret (.con (.bl false))] []], .asg (.name 13) (.tup [(.var 3), (.op .Mult (.tup [(.un .USub (.con (.int (1 : Nat))))]) (.var 3))]), .asg (.name 14) (.comp (.call ix_law_asked [(.var 23), (.var 13), (.con (.int (99999 : Nat))), (.un .USub (.con (.int (1 : Nat))))]) (.name 23) (.rng1 (.con (.int (15 : Nat)))) none [23]), .asg (.name 15) (.call ix_law_flat [(.comp (.comp (.call ix_law_asked [(.var 23), (.var 2), (.var 8), (.un .USub (.con (.int (1 : Nat))))]) (.name 8) (.seq (.lst [(.un .USub (.con (.int (1 : Nat)))), (.blt .len [(.var 4)])])) none [8]) (.name 23) (.seq (.lst [(.con (.int (9 : Nat))), (.con (.int (10 : Nat))), (.con (.int (12 : Nat))), (.con (.int (13 : Nat))), (.con (.int (14 : Nat)))])) none [23])]), .asg (.name 16) (.op .Add (.comp (.call ix_law_asked [(.con (.int (12 : Nat))), (.var 2), (.con (.int (0 : Nat))), (.var 8)]) (.name 8) (.seq (.lst [(.un .USub (.con (.int (1 : Nat)))), (.con (.int (1001 : Nat)))])) none [8]) (.call ix_law_flat [(.comp (.comp (.call ix_law_asked [(.var 23), (.var 2), (.con (.int (0 : Nat))), (.var 8)]) (.name 8) (.seq (.lst [(.un .USub (.con (.int (1 : Nat)))), (.op .Add (.op .Pow (.con (.int (10 : Nat))) (.con (.int (30 : Nat)))) (.con (.int (1 : Nat))))])) none [8]) (.name 23) (.seq (.lst [(.con (.int (13 : Nat))), (.con (.int (14 : Nat)))])) none [23])])), .asg (.name 16) (.op .Add (.var 16) (.comp (.call ix_law_asked [(.con (.int (11 : Nat))), (.var 2), (.var 8), (.con .non)]) (.name 8) (.seq (.lst [(.un .USub (.con (.int (1 : Nat)))), (.op .Add (.op .Pow (.con (.int (10 : Nat))) (.con (.int (30 : Nat)))) (.con (.int (1 : Nat))))])) none [8])), .ret (.and (.cmp .Eq (.var 14) (.op .Mult (.lst [(.con (.str ("!net" : Str)))]) (.con (.int (15 : Nat))))) (.and (.cmp .Eq (.var 15) (.op .Mult (.lst [(.con (.str ("!standing" : Str)))]) (.con (.int (10 : Nat))))) (.cmp .Eq (.var 16) (.op .Mult (.lst [(.con (.str ("!number" : Str)))]) (.con (.int (8 : Nat)))))))]
def pgP : Pg := ⟨⟨1, 4, false, b_is_net⟩ :: ⟨1, 1, false, b_check_net⟩ :: ⟨2, 2, false, b_check_standing⟩ :: ⟨2, 4, false, b_to_be⟩ :: ⟨2, 6, false, b_net_of⟩ :: ⟨1, 2, false, b_table_by⟩ :: ⟨2, 2, false, b_check_steps⟩ :: ⟨3, 6, false, b_road⟩ :: ⟨2, 5, false, b_lead_by⟩ :: ⟨2, 2, false, b_lead⟩ :: ⟨2, 2, false, b_length⟩ :: ⟨2, 5, false, b_powered⟩ :: ⟨3, 3, false, b_behind⟩ :: ⟨1, 2, false, b_turned⟩ :: ⟨1, 3, false, b_rounds_of⟩ :: ⟨1, 1, false, b_rounds⟩ :: ⟨1, 6, false, b_basins⟩ :: ⟨1, 4, false, b_unreached⟩ :: ⟨3, 5, false, b_leading_to⟩ :: ⟨1, 2, false, b_lead_of⟩ :: ⟨1, 1, false, b_net_lead⟩ :: ⟨2, 4, false, b_common_multiple⟩ :: ⟨1, 3, false, b_period⟩ :: ⟨1, 2, false, b_one_to_one⟩ :: ⟨1, 1, false, b_is_one_to_one⟩ :: ⟨1, 5, false, b_net_back⟩ :: ⟨1, 2, false, b_settles⟩ :: ⟨1, 1, false, b_has_one_end⟩ :: ⟨2, 2, false, b_power⟩ :: ⟨1, 1, false, b_law_number⟩ :: ⟨1, 7, false, b_law_draws⟩ :: ⟨1, 3, false, b_law_flat⟩ :: ⟨1, 1, true, b_law_next⟩ :: ⟨2, 5, true, b_law_more⟩ :: ⟨2, 2, true, b_law_pick⟩ :: ⟨1, 3, false, b_law_kind⟩ :: ⟨1, 3, false, b_law_power⟩ :: ⟨2, 2, false, b_law_on⟩ :: ⟨1, 5, false, b_law_table⟩ :: ⟨2, 4, false, b_law_net_of⟩ :: ⟨2, 3, true, b_law_literal⟩ :: ⟨2, 14, true, b_law_net⟩ :: ⟨3, 5, false, b_law_road⟩ :: ⟨2, 5, false, b_law_lead⟩ :: ⟨2, 6, false, b_law_round⟩ :: ⟨1, 4, false, b_law_multiple⟩ :: ⟨4, 5, false, b_law_asked⟩ :: ⟨1, 27, false, b_law⟩ :: [], [[true, false, false, false, false, false, false, false], [true, true, false, false, false, false, false, false], [true, false, true, false, false, false, false, false], [true, false, false, true, false, false, false, false], [true, false, false, false, true, false, false, false], [true, false, false, false, false, true, false, false], [true, false, false, false, false, false, true, false], [true, false, false, false, false, false, false, true]], 10000⟩
theorem go_is_net {k : Nat} {a0 : D} {Q : D → Bool → D → Prop} {E : ER} (h : WS (exSs (pgP.gm (callN pgP k)) b_is_net [.val a0, .no, .no, .no]) (fun f => Cl (endFl false f) Q E) E) : Cl (callN pgP (k + 1) ix_is_net [a0]) Q E := Cl_run (F := ⟨1, 4, false, b_is_net⟩) rfl rfl rfl rfl h
theorem go_check_net {k : Nat} {a0 : D} {Q : D → Bool → D → Prop} {E : ER} (h : WS (exSs (pgP.gm (callN pgP k)) b_check_net [.val a0]) (fun f => Cl (endFl false f) Q E) E) : Cl (callN pgP (k + 1) ix_check_net [a0]) Q E := Cl_run (F := ⟨1, 1, false, b_check_net⟩) rfl rfl rfl rfl h
theorem go_check_standing {k : Nat} {a0 a1 : D} {Q : D → Bool → D → Prop} {E : ER} (h : WS (exSs (pgP.gm (callN pgP k)) b_check_standing [.val a0, .val a1]) (fun f => Cl (endFl false f) Q E) E) : Cl (callN pgP (k + 1) ix_check_standing [a0, a1]) Q E := Cl_run (F := ⟨2, 2, false, b_check_standing⟩) rfl rfl rfl rfl h
theorem go_to_be {k : Nat} {a0 a1 : D} {Q : D → Bool → D → Prop} {E : ER} (h : WS (exSs (pgP.gm (callN pgP k)) b_to_be [.val a0, .val a1, .no, .no]) (fun f => Cl (endFl false f) Q E) E) : Cl (callN pgP (k + 1) ix_to_be [a0, a1]) Q E := Cl_run (F := ⟨2, 4, false, b_to_be⟩) rfl rfl rfl rfl h
theorem go_net_of {k : Nat} {a0 a1 : D} {Q : D → Bool → D → Prop} {E : ER} (h : WS (exSs (pgP.gm (callN pgP k)) b_net_of [.val a0, .val a1, .no, .no, .no, .no]) (fun f => Cl (endFl false f) Q E) E) : Cl (callN pgP (k + 1) ix_net_of [a0, a1]) Q E := Cl_run (F := ⟨2, 6, false, b_net_of⟩) rfl rfl rfl rfl h
theorem go_table_by {k : Nat} {a0 : D} {Q : D → Bool → D → Prop} {E : ER} (h : WS (exSs (pgP.gm (callN pgP k)) b_table_by [.val a0, .no]) (fun f => Cl (endFl false f) Q E) E) : Cl (callN pgP (k + 1) ix_table_by [a0]) Q E := Cl_run (F := ⟨1, 2, false, b_table_by⟩) rfl rfl rfl rfl h
theorem go_check_steps {k : Nat} {a0 a1 : D} {Q : D → Bool → D → Prop} {E : ER} (h : WS (exSs (pgP.gm (callN pgP k)) b_check_steps [.val a0, .val a1]) (fun f => Cl (endFl false f) Q E) E) : Cl (callN pgP (k + 1) ix_check_steps [a0, a1]) Q E := Cl_run (F := ⟨2, 2, false, b_check_steps⟩) rfl rfl rfl rfl h
theorem go_road {k : Nat} {a0 a1 a2 : D} {Q : D → Bool → D → Prop} {E : ER} (h : WS (exSs (pgP.gm (callN pgP k)) b_road [.val a0, .val a1, .val a2, .no, .no, .no]) (fun f => Cl (endFl false f) Q E) E) : Cl (callN pgP (k + 1) ix_road [a0, a1, a2]) Q E := Cl_run (F := ⟨3, 6, false, b_road⟩) rfl rfl rfl rfl h
theorem go_lead_by {k : Nat} {a0 a1 : D} {Q : D → Bool → D → Prop} {E : ER} (h : WS (exSs (pgP.gm (callN pgP k)) b_lead_by [.val a0, .val a1, .no, .no, .no]) (fun f => Cl (endFl false f) Q E) E) : Cl (callN pgP (k + 1) ix_lead_by [a0, a1]) Q E := Cl_run (F := ⟨2, 5, false, b_lead_by⟩) rfl rfl rfl rfl h
theorem go_lead {k : Nat} {a0 a1 : D} {Q : D → Bool → D → Prop} {E : ER} (h : WS (exSs (pgP.gm (callN pgP k)) b_lead [.val a0, .val a1]) (fun f => Cl (endFl false f) Q E) E) : Cl (callN pgP (k + 1) ix_lead [a0, a1]) Q E := Cl_run (F := ⟨2, 2, false, b_lead⟩) rfl rfl rfl rfl h
theorem go_length {k : Nat} {a0 a1 : D} {Q : D → Bool → D → Prop} {E : ER} (h : WS (exSs (pgP.gm (callN pgP k)) b_length [.val a0, .val a1]) (fun f => Cl (endFl false f) Q E) E) : Cl (callN pgP (k + 1) ix_length [a0, a1]) Q E := Cl_run (F := ⟨2, 2, false, b_length⟩) rfl rfl rfl rfl h
theorem go_powered {k : Nat} {a0 a1 : D} {Q : D → Bool → D → Prop} {E : ER} (h : WS (exSs (pgP.gm (callN pgP k)) b_powered [.val a0, .val a1, .no, .no, .no]) (fun f => Cl (endFl false f) Q E) E) : Cl (callN pgP (k + 1) ix_powered [a0, a1]) Q E := Cl_run (F := ⟨2, 5, false, b_powered⟩) rfl rfl rfl rfl h
theorem go_behind {k : Nat} {a0 a1 a2 : D} {Q : D → Bool → D → Prop} {E : ER} (h : WS (exSs (pgP.gm (callN pgP k)) b_behind [.val a0, .val a1, .val a2]) (fun f => Cl (endFl false f) Q E) E) : Cl (callN pgP (k + 1) ix_behind [a0, a1, a2]) Q E := Cl_run (F := ⟨3, 3, false, b_behind⟩) rfl rfl rfl rfl h
theorem go_turned {k : Nat} {a0 : D} {Q : D → Bool → D → Prop} {E : ER} (h : WS (exSs (pgP.gm (callN pgP k)) b_turned [.val a0, .no]) (fun f => Cl (endFl false f) Q E) E) : Cl (callN pgP (k + 1) ix_turned [a0]) Q E := Cl_run (F := ⟨1, 2, false, b_turned⟩) rfl rfl rfl rfl h
theorem go_rounds_of {k : Nat} {a0 : D} {Q : D → Bool → D → Prop} {E : ER} (h : WS (exSs (pgP.gm (callN pgP k)) b_rounds_of [.val a0, .no, .no]) (fun f => Cl (endFl false f) Q E) E) : Cl (callN pgP (k + 1) ix_rounds_of [a0]) Q E := Cl_run (F := ⟨1, 3, false, b_rounds_of⟩) rfl rfl rfl rfl h
theorem go_rounds {k : Nat} {a0 : D} {Q : D → Bool → D → Prop} {E : ER} (h : WS (exSs (pgP.gm (callN pgP k)) b_rounds [.val a0]) (fun f => Cl (endFl false f) Q E) E) : Cl (callN pgP (k + 1) ix_rounds [a0]) Q E := Cl_run (F := ⟨1, 1, false, b_rounds⟩) rfl rfl rfl rfl h
theorem go_basins {k : Nat} {a0 : D} {Q : D → Bool → D → Prop} {E : ER} (h : WS (exSs (pgP.gm (callN pgP k)) b_basins [.val a0, .no, .no, .no, .no, .no]) (fun f => Cl (endFl false f) Q E) E) : Cl (callN pgP (k + 1) ix_basins [a0]) Q E := Cl_run (F := ⟨1, 6, false, b_basins⟩) rfl rfl rfl rfl h
theorem go_unreached {k : Nat} {a0 : D} {Q : D → Bool → D → Prop} {E : ER} (h : WS (exSs (pgP.gm (callN pgP k)) b_unreached [.val a0, .no, .no, .no]) (fun f => Cl (endFl false f) Q E) E) : Cl (callN pgP (k + 1) ix_unreached [a0]) Q E := Cl_run (F := ⟨1, 4, false, b_unreached⟩) rfl rfl rfl rfl h
theorem go_leading_to {k : Nat} {a0 a1 a2 : D} {Q : D → Bool → D → Prop} {E : ER} (h : WS (exSs (pgP.gm (callN pgP k)) b_leading_to [.val a0, .val a1, .val a2, .no, .no]) (fun f => Cl (endFl false f) Q E) E) : Cl (callN pgP (k + 1) ix_leading_to [a0, a1, a2]) Q E := Cl_run (F := ⟨3, 5, false, b_leading_to⟩) rfl rfl rfl rfl h
theorem go_lead_of {k : Nat} {a0 : D} {Q : D → Bool → D → Prop} {E : ER} (h : WS (exSs (pgP.gm (callN pgP k)) b_lead_of [.val a0, .no]) (fun f => Cl (endFl false f) Q E) E) : Cl (callN pgP (k + 1) ix_lead_of [a0]) Q E := Cl_run (F := ⟨1, 2, false, b_lead_of⟩) rfl rfl rfl rfl h
theorem go_net_lead {k : Nat} {a0 : D} {Q : D → Bool → D → Prop} {E : ER} (h : WS (exSs (pgP.gm (callN pgP k)) b_net_lead [.val a0]) (fun f => Cl (endFl false f) Q E) E) : Cl (callN pgP (k + 1) ix_net_lead [a0]) Q E := Cl_run (F := ⟨1, 1, false, b_net_lead⟩) rfl rfl rfl rfl h
theorem go_common_multiple {k : Nat} {a0 a1 : D} {Q : D → Bool → D → Prop} {E : ER} (h : WS (exSs (pgP.gm (callN pgP k)) b_common_multiple [.val a0, .val a1, .no, .no]) (fun f => Cl (endFl false f) Q E) E) : Cl (callN pgP (k + 1) ix_common_multiple [a0, a1]) Q E := Cl_run (F := ⟨2, 4, false, b_common_multiple⟩) rfl rfl rfl rfl h
theorem go_period {k : Nat} {a0 : D} {Q : D → Bool → D → Prop} {E : ER} (h : WS (exSs (pgP.gm (callN pgP k)) b_period [.val a0, .no, .no]) (fun f => Cl (endFl false f) Q E) E) : Cl (callN pgP (k + 1) ix_period [a0]) Q E := Cl_run (F := ⟨1, 3, false, b_period⟩) rfl rfl rfl rfl h
theorem go_one_to_one {k : Nat} {a0 : D} {Q : D → Bool → D → Prop} {E : ER} (h : WS (exSs (pgP.gm (callN pgP k)) b_one_to_one [.val a0, .no]) (fun f => Cl (endFl false f) Q E) E) : Cl (callN pgP (k + 1) ix_one_to_one [a0]) Q E := Cl_run (F := ⟨1, 2, false, b_one_to_one⟩) rfl rfl rfl rfl h
theorem go_is_one_to_one {k : Nat} {a0 : D} {Q : D → Bool → D → Prop} {E : ER} (h : WS (exSs (pgP.gm (callN pgP k)) b_is_one_to_one [.val a0]) (fun f => Cl (endFl false f) Q E) E) : Cl (callN pgP (k + 1) ix_is_one_to_one [a0]) Q E := Cl_run (F := ⟨1, 1, false, b_is_one_to_one⟩) rfl rfl rfl rfl h
theorem go_net_back {k : Nat} {a0 : D} {Q : D → Bool → D → Prop} {E : ER} (h : WS (exSs (pgP.gm (callN pgP k)) b_net_back [.val a0, .no, .no, .no, .no]) (fun f => Cl (endFl false f) Q E) E) : Cl (callN pgP (k + 1) ix_net_back [a0]) Q E := Cl_run (F := ⟨1, 5, false, b_net_back⟩) rfl rfl rfl rfl h
theorem go_settles {k : Nat} {a0 : D} {Q : D → Bool → D → Prop} {E : ER} (h : WS (exSs (pgP.gm (callN pgP k)) b_settles [.val a0, .no]) (fun f => Cl (endFl false f) Q E) E) : Cl (callN pgP (k + 1) ix_settles [a0]) Q E := Cl_run (F := ⟨1, 2, false, b_settles⟩) rfl rfl rfl rfl h
theorem go_has_one_end {k : Nat} {a0 : D} {Q : D → Bool → D → Prop} {E : ER} (h : WS (exSs (pgP.gm (callN pgP k)) b_has_one_end [.val a0]) (fun f => Cl (endFl false f) Q E) E) : Cl (callN pgP (k + 1) ix_has_one_end [a0]) Q E := Cl_run (F := ⟨1, 1, false, b_has_one_end⟩) rfl rfl rfl rfl h
theorem go_power {k : Nat} {a0 a1 : D} {Q : D → Bool → D → Prop} {E : ER} (h : WS (exSs (pgP.gm (callN pgP k)) b_power [.val a0, .val a1]) (fun f => Cl (endFl false f) Q E) E) : Cl (callN pgP (k + 1) ix_power [a0, a1]) Q E := Cl_run (F := ⟨2, 2, false, b_power⟩) rfl rfl rfl rfl h
theorem go_law_number {k : Nat} {a0 : D} {Q : D → Bool → D → Prop} {E : ER} (h : WS (exSs (pgP.gm (callN pgP k)) b_law_number [.val a0]) (fun f => Cl (endFl false f) Q E) E) : Cl (callN pgP (k + 1) ix_law_number [a0]) Q E := Cl_run (F := ⟨1, 1, false, b_law_number⟩) rfl rfl rfl rfl h
theorem go_law_draws {k : Nat} {a0 : D} {Q : D → Bool → D → Prop} {E : ER} (h : WS (exSs (pgP.gm (callN pgP k)) b_law_draws [.val a0, .no, .no, .no, .no, .no, .no]) (fun f => Cl (endFl false f) Q E) E) : Cl (callN pgP (k + 1) ix_law_draws [a0]) Q E := Cl_run (F := ⟨1, 7, false, b_law_draws⟩) rfl rfl rfl rfl h
theorem go_law_flat {k : Nat} {a0 : D} {Q : D → Bool → D → Prop} {E : ER} (h : WS (exSs (pgP.gm (callN pgP k)) b_law_flat [.val a0, .no, .no]) (fun f => Cl (endFl false f) Q E) E) : Cl (callN pgP (k + 1) ix_law_flat [a0]) Q E := Cl_run (F := ⟨1, 3, false, b_law_flat⟩) rfl rfl rfl rfl h
theorem go_law_next {k : Nat} {a0 : D} {Q : D → Bool → D → Prop} {E : ER} (h : WS (exSs (pgP.gm (callN pgP k)) b_law_next [.own 1 a0]) (fun f => Cl (endFl true f) Q noE) noE) : Cl (callN pgP (k + 1) ix_law_next [a0]) Q E := Cl_runio (F := ⟨1, 1, true, b_law_next⟩) rfl rfl rfl rfl h
theorem go_law_more {k : Nat} {a0 a1 : D} {Q : D → Bool → D → Prop} {E : ER} (h : WS (exSs (pgP.gm (callN pgP k)) b_law_more [.own 1 a0, .val a1, .no, .no, .no]) (fun f => Cl (endFl true f) Q noE) noE) : Cl (callN pgP (k + 1) ix_law_more [a0, a1]) Q E := Cl_runio (F := ⟨2, 5, true, b_law_more⟩) rfl rfl rfl rfl h
theorem go_law_pick {k : Nat} {a0 a1 : D} {Q : D → Bool → D → Prop} {E : ER} (h : WS (exSs (pgP.gm (callN pgP k)) b_law_pick [.own 1 a0, .val a1]) (fun f => Cl (endFl true f) Q noE) noE) : Cl (callN pgP (k + 1) ix_law_pick [a0, a1]) Q E := Cl_runio (F := ⟨2, 2, true, b_law_pick⟩) rfl rfl rfl rfl h
theorem go_law_kind {k : Nat} {a0 : D} {Q : D → Bool → D → Prop} {E : ER} (h : WS (exSs (pgP.gm (callN pgP k)) b_law_kind [.val a0, .no, .no]) (fun f => Cl (endFl false f) Q E) E) : Cl (callN pgP (k + 1) ix_law_kind [a0]) Q E := Cl_run (F := ⟨1, 3, false, b_law_kind⟩) rfl rfl rfl rfl h
theorem go_law_power {k : Nat} {a0 : D} {Q : D → Bool → D → Prop} {E : ER} (h : WS (exSs (pgP.gm (callN pgP k)) b_law_power [.val a0, .no, .no]) (fun f => Cl (endFl false f) Q E) E) : Cl (callN pgP (k + 1) ix_law_power [a0]) Q E := Cl_run (F := ⟨1, 3, false, b_law_power⟩) rfl rfl rfl rfl h
theorem go_law_on {k : Nat} {a0 a1 : D} {Q : D → Bool → D → Prop} {E : ER} (h : WS (exSs (pgP.gm (callN pgP k)) b_law_on [.val a0, .val a1]) (fun f => Cl (endFl false f) Q E) E) : Cl (callN pgP (k + 1) ix_law_on [a0, a1]) Q E := Cl_run (F := ⟨2, 2, false, b_law_on⟩) rfl rfl rfl rfl h
theorem go_law_table {k : Nat} {a0 : D} {Q : D → Bool → D → Prop} {E : ER} (h : WS (exSs (pgP.gm (callN pgP k)) b_law_table [.val a0, .no, .no, .no, .no]) (fun f => Cl (endFl false f) Q E) E) : Cl (callN pgP (k + 1) ix_law_table [a0]) Q E := Cl_run (F := ⟨1, 5, false, b_law_table⟩) rfl rfl rfl rfl h
theorem go_law_net_of {k : Nat} {a0 a1 : D} {Q : D → Bool → D → Prop} {E : ER} (h : WS (exSs (pgP.gm (callN pgP k)) b_law_net_of [.val a0, .val a1, .no, .no]) (fun f => Cl (endFl false f) Q E) E) : Cl (callN pgP (k + 1) ix_law_net_of [a0, a1]) Q E := Cl_run (F := ⟨2, 4, false, b_law_net_of⟩) rfl rfl rfl rfl h
theorem go_law_literal {k : Nat} {a0 a1 : D} {Q : D → Bool → D → Prop} {E : ER} (h : WS (exSs (pgP.gm (callN pgP k)) b_law_literal [.own 1 a0, .val a1, .no]) (fun f => Cl (endFl true f) Q noE) noE) : Cl (callN pgP (k + 1) ix_law_literal [a0, a1]) Q E := Cl_runio (F := ⟨2, 3, true, b_law_literal⟩) rfl rfl rfl rfl h
theorem go_law_net {k : Nat} {a0 a1 : D} {Q : D → Bool → D → Prop} {E : ER} (h : WS (exSs (pgP.gm (callN pgP k)) b_law_net [.own 1 a0, .val a1, .no, .no, .no, .no, .no, .no, .no, .no, .no, .no, .no, .no]) (fun f => Cl (endFl true f) Q noE) noE) : Cl (callN pgP (k + 1) ix_law_net [a0, a1]) Q E := Cl_runio (F := ⟨2, 14, true, b_law_net⟩) rfl rfl rfl rfl h
theorem go_law_road {k : Nat} {a0 a1 a2 : D} {Q : D → Bool → D → Prop} {E : ER} (h : WS (exSs (pgP.gm (callN pgP k)) b_law_road [.val a0, .val a1, .val a2, .no, .no]) (fun f => Cl (endFl false f) Q E) E) : Cl (callN pgP (k + 1) ix_law_road [a0, a1, a2]) Q E := Cl_run (F := ⟨3, 5, false, b_law_road⟩) rfl rfl rfl rfl h
theorem go_law_lead {k : Nat} {a0 a1 : D} {Q : D → Bool → D → Prop} {E : ER} (h : WS (exSs (pgP.gm (callN pgP k)) b_law_lead [.val a0, .val a1, .no, .no, .no]) (fun f => Cl (endFl false f) Q E) E) : Cl (callN pgP (k + 1) ix_law_lead [a0, a1]) Q E := Cl_run (F := ⟨2, 5, false, b_law_lead⟩) rfl rfl rfl rfl h
theorem go_law_round {k : Nat} {a0 a1 : D} {Q : D → Bool → D → Prop} {E : ER} (h : WS (exSs (pgP.gm (callN pgP k)) b_law_round [.val a0, .val a1, .no, .no, .no, .no]) (fun f => Cl (endFl false f) Q E) E) : Cl (callN pgP (k + 1) ix_law_round [a0, a1]) Q E := Cl_run (F := ⟨2, 6, false, b_law_round⟩) rfl rfl rfl rfl h
theorem go_law_multiple {k : Nat} {a0 : D} {Q : D → Bool → D → Prop} {E : ER} (h : WS (exSs (pgP.gm (callN pgP k)) b_law_multiple [.val a0, .no, .no, .no]) (fun f => Cl (endFl false f) Q E) E) : Cl (callN pgP (k + 1) ix_law_multiple [a0]) Q E := Cl_run (F := ⟨1, 4, false, b_law_multiple⟩) rfl rfl rfl rfl h
theorem go_law_asked {k : Nat} {a0 a1 a2 a3 : D} {Q : D → Bool → D → Prop} {E : ER} (h : WS (exSs (pgP.gm (callN pgP k)) b_law_asked [.val a0, .val a1, .val a2, .val a3, .no]) (fun f => Cl (endFl false f) Q E) E) : Cl (callN pgP (k + 1) ix_law_asked [a0, a1, a2, a3]) Q E := Cl_run (F := ⟨4, 5, false, b_law_asked⟩) rfl rfl rfl rfl h
theorem go_law {k : Nat} {a0 : D} {Q : D → Bool → D → Prop} {E : ER} (h : WS (exSs (pgP.gm (callN pgP k)) b_law [.val a0, .no, .no, .no, .no, .no, .no, .no, .no, .no, .no, .no, .no, .no, .no, .no, .no, .no, .no, .no, .no, .no, .no, .no, .no, .no, .no]) (fun f => Cl (endFl false f) Q E) E) : Cl (callN pgP (k + 1) ix_law [a0]) Q E := Cl_run (F := ⟨1, 27, false, b_law⟩) rfl rfl rfl rfl h
end K02
namespace K02
open PySem PI
local macro_rules | `(tactic| got_up) => `(tactic| first
  | ((with_reducible show W _ _ _); first
  | with_reducible refine W_var (by with_unfolding_all exact rfl) ?_
  | with_reducible refine W_con ?_
  | with_reducible refine W_op ?_
  | with_reducible refine P_call ?_
  | with_reducible refine W_cons ?_
  | with_reducible refine W_nil ?_
  | with_reducible refine W_rcons ?_
  | with_reducible refine W_rnil ?_
  | with_reducible refine W_blt ?_
  | with_reducible refine W_cmp ?_
  | with_reducible refine W_ix ?_
  | with_reducible refine W_tup (by with_unfolding_all exact rfl) ?_
  | with_reducible refine W_lst (by with_unfolding_all exact rfl) ?_
  | with_reducible refine W_not ?_
  | with_reducible refine W_comp ?_
  | with_reducible refine W_chain ?_
  | with_reducible refine W_chain3 ?_
  | with_reducible refine W_rngVN ?_
  | with_reducible refine P_callio (by with_unfolding_all exact rfl) ?_
  | with_reducible refine W_mut (by with_unfolding_all exact rfl) ?_
  | with_reducible refine W_sl ?_
  | with_reducible refine W_ono ?_
  | with_reducible refine W_osome ?_
  | with_reducible refine P_menu ?_
  | with_reducible refine un_inv ?_
  | with_reducible refine un_neg ?_
  | with_reducible refine W_rngN ?_
  | with_reducible refine W_isa ?_
  | with_reducible refine W_dsp ?_
  | with_reducible refine W_dnew ?_
  | with_reducible refine W_rev ?_
  | with_reducible refine W_mth ?_
  | with_reducible refine W_spl ?_
  | with_reducible refine W_spT ?_
  | with_reducible refine W_spF ?_
  | with_reducible refine W_spn ?_
  | with_reducible refine W_dcomp ?_
  | with_reducible refine W_tr ?_
  | with_reducible refine P_cons ?_
  | with_reducible refine P_nil ?_)
  | ((with_reducible show WS _ _ _); first
  | with_reducible refine S_cons ?_
  | with_reducible refine S_nil ?_
  | with_reducible refine S_asg ?_
  | with_reducible refine S_ret ?_
  | with_reducible refine S_ite ?_
  | with_reducible refine S_ex ?_
  | with_reducible refine S_for ?_
  | with_reducible refine S_par ?_
  | with_reducible refine S_aug (by with_unfolding_all exact rfl) (by with_unfolding_all exact rfl) ?_
  | with_reducible refine S_retN ?_
  | with_reducible refine S_raise ?_
  | with_reducible refine S_tryk ?_
  | with_reducible refine S_brk ?_
  | with_reducible refine S_cnt ?_
  | with_reducible refine S_pass ?_
  | with_reducible refine S_setix ?_)
  | ((with_reducible show Op2 _ _ _ _); first
    | refine op_addN ?_
    | refine op_add ?_
    | refine op_subN (by omega) ?_
    | refine op_sub ?_
    | refine op_modN (by omega) ?_
    | refine op_modN ?_ ?_
    | refine op_fdivN (by omega) (by omega) ?_
    | refine op_fdivN ?_ ?_ ?_
    | refine op_shrN ?_
    | refine op_shl1 (by omega) ?_
    | refine op_shl1 ?_ ?_
    | refine op_shlN (by omega) (by omega) ?_
    | refine op_shlN ?_ ?_ ?_
    | refine op_mulN (by omega) ?_
    | refine op_mulN ?_ ?_
    | refine op_mul ?_ ?_
    | refine op_andNot ?_
    | refine op_andN ?_
    | refine op_orN ?_
    | refine op_xorN ?_
    | refine op_powN ?_ ?_ ?_
    | refine op_lstM (line_le (by omega)) ?_
    | refine op_lstM ?_ ?_
    | refine op_lst (line_le (by simp; first | done | fail)) ?_
    | refine op_lst ?_ ?_
    | refine op_tup (line_le (by simp; omega)) ?_
    | refine op_tup ?_ ?_
    | refine op_tmul (List.cons_ne_nil _ _) (by omega) (by omega) (by simp; first | done | fail) ?_
    | refine op_lmul (by omega) (line_le (by simp; first | done | fail)) ?_)
  | ((with_reducible show OpA _ _ _ _); first
    | refine opa_addN ?_
    | refine opa_subN (by omega) ?_
    | refine opa_orN ?_
    | refine opa_andN ?_
    | refine opa_xorN ?_
    | refine opa_mulN (by omega) ?_)
  | ((with_reducible show Cm2 _ _ _ _); first
    | refine cm_eqN ?_
    | refine cm_neN ?_
    | refine cm_ltN ?_
    | refine cm_leN ?_
    | refine cm_gtN ?_
    | refine cm_geN ?_
    | refine cm_eq ?_
    | refine cm_ne ?_
    | refine cm_lt ?_
    | refine cm_le ?_
    | refine cm_gt ?_
    | refine cm_ge ?_
    | refine cm_isT ?_
    | refine cm_isNT ?_)
  | ((with_reducible show Tru _ _); first
    | refine tru_bl ?_
    | refine tru_intN ?_
    | refine tru_lst ?_
    | refine tru_tup ?_
    | refine tru_non ?_)
  | ((with_reducible show Blt _ _ _); first
    | refine bq_int ?_
    | refine bq_intB ?_
    | refine bq_sumN ?_
    | refine bq_minN (by assumption) ?_
    | refine bq_maxN (by assumption) ?_
    | refine bq_lenL ?_
    | refine bq_lenT ?_
    | refine bq_lenD ?_
    | refine bq_all ?_
    | refine bq_any ?_
    | refine bq_tupL ?_
    | refine bq_tupT ?_
    | refine bq_lstL ?_
    | refine bq_lstT ?_)
  | ((with_reducible show Mut _ _ _ _); first
    | refine mq_appendM (line_lt (by omega)) ?_
    | refine mq_appendM ?_ ?_
    | refine mq_append ?_ ?_
    | refine mq_reverseM ?_
    | refine mq_reverse ?_
    | refine mq_popM ?_)
  | ((with_reducible show WI _ _ _); first
  | with_reducible refine WI_seq ?_
  | with_reducible refine WI_rng1 ?_
  | with_reducible refine WI_enum ?_
  | with_reducible refine WI_rng2 ?_
  | with_reducible refine WI_zip ?_)
  | ((with_reducible show Cl (endFl _ _) _ _); first
  | with_reducible refine fin_dat ?_
  | with_reducible refine fin_fre ?_
  | with_reducible refine fin_own (by with_unfolding_all exact rfl) ?_
  | with_reducible refine fin_nx ?_
  | with_reducible refine fio_dat ?_
  | with_reducible refine fio_fre ?_
  | with_reducible refine fio_own (by with_unfolding_all exact rfl) ?_
  | with_reducible refine fio_nx ?_)
  | ((with_reducible show Iff3 _ _ _); first | refine iff_t ?_ | refine iff_f ?_)
  | ((with_reducible show Ixx _ _ _); first
    | refine ix_lstN (by assumption) ?_
    | refine ix_tupN (by assumption) ?_
    | refine ix_lstN (by omega) ?_
    | refine ix_tupN (by omega) ?_
    | refine ix_lstN ?_ ?_
    | refine ix_tupN ?_ ?_
    | refine ix_lst (by exact rfl) ?_
    | refine ix_tup (by exact rfl) ?_
    | refine Ixx_of rfl ?_)
  | ((with_reducible show Isa _ _ _); refine isa_of (by with_unfolding_all exact rfl) ?_)
  | ((with_reducible show Rvx _ _); first | refine rv_lst ?_ | refine rv_tup ?_)
  | ((with_reducible show Spl _ _); first | refine spl_lst ?_ | refine spl_tup ?_)
  | ((with_reducible show KindIs _ _ _); refine kindIs rfl ?_)
  | ((with_reducible show NatIs _ _); first | refine natIs (by omega) ?_ | refine natIs ?_ ?_)
  | ((with_reducible show OwnL _ _ _); refine ownL (by with_unfolding_all exact rfl) (by with_unfolding_all exact rfl) ?_)
  | ((with_reducible show OwnK _ _ _); refine ownK (by with_unfolding_all exact rfl) (by with_unfolding_all exact rfl) ?_)
  | ((with_reducible show Bnd _ _ _ _); first | refine bnd_name ?_ | refine bnd_tup ?_ | refine bnd_lst ?_)
  | ((with_reducible show Bnds _ _ _ _); first | refine bnds_cons ?_ | refine bnds_nil ?_)
  | ((with_reducible show BoolIs _ _); refine boolIs ?_)
  | ((with_reducible show IntIs _ _); refine IntIs.mk ?_)
  | with_reducible refine giv_dat ?_
  | with_reducible refine giv_fre ?_
  | with_reducible refine thn_nx ?_
  | with_reducible refine stK_s ?_
  | with_reducible refine stK_n ?_
  | with_reducible refine stK_v ?_
  | with_reducible refine stK_o ?_
  | with_reducible refine stK_k (by assumption) ?_
  | with_reducible refine stK_kV (by assumption) ?_
  | with_reducible refine setK_s ?_
  | with_reducible refine setK_z ?_
  | with_reducible refine asg_fre ?_
  | with_reducible refine asg_dat ?_
  | with_reducible refine asg_pl ?_
  | with_reducible refine asg_tup ?_
  | with_reducible refine thn_rt ?_
  | with_reducible refine thnN_nx ?_
  | with_reducible refine thnN_rt ?_
  | with_reducible refine WN_s ?_
  | with_reducible refine WN_z ?_
  | with_reducible refine thnN_bk ?_
  | with_reducible refine thnN_ct ?_
  | with_reducible refine giv_own (by with_unfolding_all exact rfl) ?_
  | with_reducible refine giv_val (by with_unfolding_all exact rfl) ?_
  | with_reducible refine lendE (by with_unfolding_all exact rfl) ?_
  | with_reducible refine lend_dat (by with_unfolding_all exact rfl) ?_
  | with_reducible refine lend_fre (by with_unfolding_all exact rfl) ?_
  | with_reducible refine lend_own (by with_unfolding_all exact rfl) ?_
  | with_reducible refine lend_lent (by with_unfolding_all exact rfl) ?_
  | with_reducible refine wipeK_n ?_
  | with_reducible refine wipeK_c ?_
  | with_reducible refine backK_n ?_
  | with_reducible refine backK_c ?_
  | with_reducible refine getK_s ?_
  | with_reducible refine getK_z ?_
  | with_reducible refine unlK_n ?_
  | with_reducible refine unlK_c (by with_unfolding_all exact rfl) ?_
  | with_reducible refine lp_nx ?_
  | with_reducible refine lp_ct ?_
  | with_reducible refine lp_bk ?_
  | with_reducible refine lp_rt ?_
  | with_reducible refine unF_nx ?_
  | with_reducible refine unF_rt ?_
  | with_reducible refine exJ_nx ?_
  | with_reducible refine exJ_rt ?_
  | with_reducible refine sameR ?_
  | with_reducible refine body_of ?_
  | with_reducible refine Turn_none ?_
  | with_reducible refine DTurn_none ?_
  | with_reducible refine Turn_some ?_
  | with_reducible refine kee_fre ?_
  | with_reducible refine kee_dat ?_
  | with_reducible refine kee_pl ?_
  | with_reducible refine sts_n ?_
  | with_reducible refine sts_c ?_
  | with_reducible refine thn_bk ?_
  | with_reducible refine thn_ct ?_)
local macro_rules | `(tactic| leaf_len) => `(tactic| repeat' (first
  | ((with_reducible show stK _ _ _ _); (repeat with_reducible refine stK_s ?_); first | with_reducible refine stK_n ?_ | with_reducible refine stK_v ?_ | with_reducible refine stK_o ?_ | with_reducible refine stK_k (by assumption) ?_ | with_reducible refine stK_kV (by assumption) ?_)
  | ((with_reducible show W _ _ _); first
  | ((with_reducible show W (ev _ _ _) _ _); first
    | with_reducible refine W_var (by with_unfolding_all exact rfl) ?_
    | with_reducible refine W_con ?_
    | with_reducible refine W_ix ?_
    | with_reducible refine W_cmp ?_
    | with_reducible refine P_call ?_
    | with_reducible refine W_blt ?_
    | with_reducible refine W_op ?_
    | with_reducible refine W_comp ?_
    | with_reducible refine W_tup (by with_unfolding_all exact rfl) ?_
    | with_reducible refine W_not ?_
    | with_reducible refine W_lst (by with_unfolding_all exact rfl) ?_
    | with_reducible refine W_chain ?_
    | with_reducible refine W_chain3 ?_
    | with_reducible refine W_rngVN ?_
    | with_reducible refine P_callio (by with_unfolding_all exact rfl) ?_
    | with_reducible refine W_mut (by with_unfolding_all exact rfl) ?_
    | with_reducible refine W_sl ?_
    | with_reducible refine P_menu ?_
    | with_reducible refine un_inv ?_
    | with_reducible refine un_neg ?_
    | with_reducible refine W_rngN ?_
    | with_reducible refine W_isa ?_
    | with_reducible refine W_dsp ?_
    | with_reducible refine W_dnew ?_
    | with_reducible refine W_rev ?_
    | with_reducible refine W_mth ?_
    | with_reducible refine W_spl ?_
    | with_reducible refine W_dcomp ?_)
  | with_reducible refine W_cons ?_
  | with_reducible refine W_nil ?_
  | with_reducible refine W_rcons ?_
  | with_reducible refine W_rnil ?_
  | with_reducible refine W_tr ?_
  | with_reducible refine W_ono ?_
  | with_reducible refine W_osome ?_
  | with_reducible refine P_cons ?_
  | with_reducible refine P_nil ?_
  | with_reducible refine W_spT ?_
  | with_reducible refine W_spF ?_
  | with_reducible refine W_spn ?_)
  | ((with_reducible show WS _ _ _); first
  | with_reducible refine S_cons ?_
  | with_reducible refine S_nil ?_
  | with_reducible refine S_asg ?_
  | with_reducible refine S_ret ?_
  | with_reducible refine S_ite ?_
  | with_reducible refine S_ex ?_
  | with_reducible refine S_for ?_
  | with_reducible refine S_par ?_
  | with_reducible refine S_aug (by with_unfolding_all exact rfl) (by with_unfolding_all exact rfl) ?_
  | with_reducible refine S_retN ?_
  | with_reducible refine S_raise ?_
  | with_reducible refine S_tryk ?_
  | with_reducible refine S_brk ?_
  | with_reducible refine S_cnt ?_
  | with_reducible refine S_pass ?_
  | with_reducible refine S_setix ?_)
  | ((with_reducible show getK _ _ _); (repeat with_reducible refine getK_s ?_); with_reducible refine getK_z ?_)
  | ((with_reducible show setK _ _ _ _); (repeat with_reducible refine setK_s ?_); with_reducible refine setK_z ?_)
  | ((with_reducible show Giv _ _ _); first | with_reducible refine giv_dat ?_ | with_reducible refine giv_fre ?_ | with_reducible refine giv_own (by with_unfolding_all exact rfl) ?_ | with_reducible refine giv_val (by with_unfolding_all exact rfl) ?_)
  | ((with_reducible show thn _ _ _ _ _); first | with_reducible refine thn_nx ?_ | with_reducible refine thn_rt ?_ | with_reducible refine thn_bk ?_ | with_reducible refine thn_ct ?_)
  | ((with_reducible show Asg _ _ _ _); first | with_reducible refine asg_fre ?_ | with_reducible refine asg_dat ?_ | with_reducible refine asg_pl ?_ | with_reducible refine asg_tup ?_)
  | ((with_reducible show Cm2 _ _ _ _); first
    | refine cm_eqN ?_
    | refine cm_neN ?_
    | refine cm_ltN ?_
    | refine cm_leN ?_
    | refine cm_gtN ?_
    | refine cm_geN ?_
    | refine cm_eq ?_
    | refine cm_ne ?_
    | refine cm_lt ?_
    | refine cm_le ?_
    | refine cm_gt ?_
    | refine cm_ge ?_
    | refine cm_isT ?_
    | refine cm_isNT ?_)
  | ((with_reducible show Op2 _ _ _ _); first
    | refine op_addN ?_
    | refine op_add ?_
    | refine op_subN (by omega) ?_
    | refine op_sub ?_
    | refine op_modN (by omega) ?_
    | refine op_modN ?_ ?_
    | refine op_fdivN (by omega) (by omega) ?_
    | refine op_fdivN ?_ ?_ ?_
    | refine op_shrN ?_
    | refine op_shl1 (by omega) ?_
    | refine op_shl1 ?_ ?_
    | refine op_shlN (by omega) (by omega) ?_
    | refine op_shlN ?_ ?_ ?_
    | refine op_mulN (by omega) ?_
    | refine op_mulN ?_ ?_
    | refine op_mul ?_ ?_
    | refine op_andNot ?_
    | refine op_andN ?_
    | refine op_orN ?_
    | refine op_xorN ?_
    | refine op_powN ?_ ?_ ?_
    | refine op_lstM (line_le (by omega)) ?_
    | refine op_lstM ?_ ?_
    | refine op_lst (line_le (by simp; first | done | fail)) ?_
    | refine op_lst ?_ ?_
    | refine op_tup (line_le (by simp; omega)) ?_
    | refine op_tup ?_ ?_
    | refine op_tmul (List.cons_ne_nil _ _) (by omega) (by omega) (by simp; first | done | fail) ?_
    | refine op_lmul (by omega) (line_le (by simp; first | done | fail)) ?_)
  | ((with_reducible show Ixx _ _ _); first
    | refine ix_lstN (by assumption) ?_
    | refine ix_tupN (by assumption) ?_
    | refine ix_lstN (by omega) ?_
    | refine ix_tupN (by omega) ?_
    | refine ix_lstN ?_ ?_
    | refine ix_tupN ?_ ?_
    | refine ix_lst (by exact rfl) ?_
    | refine ix_tup (by exact rfl) ?_
    | refine Ixx_of rfl ?_)
  | ((with_reducible show Blt _ _ _); first
    | refine bq_int ?_
    | refine bq_intB ?_
    | refine bq_sumN ?_
    | refine bq_minN (by assumption) ?_
    | refine bq_maxN (by assumption) ?_
    | refine bq_lenL ?_
    | refine bq_lenT ?_
    | refine bq_lenD ?_
    | refine bq_all ?_
    | refine bq_any ?_
    | refine bq_tupL ?_
    | refine bq_tupT ?_
    | refine bq_lstL ?_
    | refine bq_lstT ?_)
  | ((with_reducible show Iff3 _ _ _); first | refine iff_t ?_ | refine iff_f ?_)
  | ((with_reducible show Tru _ _); first
    | refine tru_bl ?_
    | refine tru_intN ?_
    | refine tru_lst ?_
    | refine tru_tup ?_
    | refine tru_non ?_)
  | ((with_reducible show Bnd _ _ _ _); first | refine bnd_name ?_ | refine bnd_tup ?_ | refine bnd_lst ?_)
  | ((with_reducible show Bnds _ _ _ _); first | refine bnds_cons ?_ | refine bnds_nil ?_)
  | ((with_reducible show Cl (endFl _ _) _ _); first
  | with_reducible refine fin_dat ?_
  | with_reducible refine fin_fre ?_
  | with_reducible refine fin_own (by with_unfolding_all exact rfl) ?_
  | with_reducible refine fin_nx ?_
  | with_reducible refine fio_dat ?_
  | with_reducible refine fio_fre ?_
  | with_reducible refine fio_own (by with_unfolding_all exact rfl) ?_
  | with_reducible refine fio_nx ?_)
  | ((with_reducible show WI _ _ _); first
  | with_reducible refine WI_seq ?_
  | with_reducible refine WI_rng1 ?_
  | with_reducible refine WI_enum ?_
  | with_reducible refine WI_rng2 ?_
  | with_reducible refine WI_zip ?_)
  | ((with_reducible show NatIs _ _); first | refine natIs (by omega) ?_ | refine natIs ?_ ?_)
  | ((with_reducible show Mut _ _ _ _); first
    | refine mq_appendM (line_lt (by omega)) ?_
    | refine mq_appendM ?_ ?_
    | refine mq_append ?_ ?_
    | refine mq_reverseM ?_
    | refine mq_reverse ?_
    | refine mq_popM ?_)
  | ((with_reducible show OpA _ _ _ _); first
    | refine opa_addN ?_
    | refine opa_subN (by omega) ?_
    | refine opa_orN ?_
    | refine opa_andN ?_
    | refine opa_xorN ?_
    | refine opa_mulN (by omega) ?_)
  | ((with_reducible show Isa _ _ _); refine isa_of (by with_unfolding_all exact rfl) ?_)
  | ((with_reducible show Rvx _ _); first | refine rv_lst ?_ | refine rv_tup ?_)
  | ((with_reducible show Spl _ _); first | refine spl_lst ?_ | refine spl_tup ?_)
  | ((with_reducible show KindIs _ _ _); refine kindIs rfl ?_)
  | ((with_reducible show OwnL _ _ _); refine ownL (by with_unfolding_all exact rfl) (by with_unfolding_all exact rfl) ?_)
  | ((with_reducible show OwnK _ _ _); refine ownK (by with_unfolding_all exact rfl) (by with_unfolding_all exact rfl) ?_)
  | ((with_reducible show BoolIs _ _); refine boolIs ?_)
  | ((with_reducible show IntIs _ _); refine IntIs.mk ?_)
  | ((with_reducible show thnN _ _ _ _ _ _); first | with_reducible refine thnN_nx ?_ | with_reducible refine thnN_rt ?_ | with_reducible refine thnN_bk ?_ | with_reducible refine thnN_ct ?_)
  | ((with_reducible show WN _ _ _ _ _ _); first | with_reducible refine WN_s ?_ | with_reducible refine WN_z ?_)
  | ((with_reducible show Lend _ _ _); first | with_reducible refine lend_dat (by with_unfolding_all exact rfl) ?_ | with_reducible refine lend_fre (by with_unfolding_all exact rfl) ?_ | with_reducible refine lend_own (by with_unfolding_all exact rfl) ?_ | with_reducible refine lend_lent (by with_unfolding_all exact rfl) ?_)
  | ((with_reducible show LendE _ _ _); first | with_reducible refine lendE (by with_unfolding_all exact rfl) ?_)
  | ((with_reducible show wipeK _ _ _); first | with_reducible refine wipeK_n ?_ | with_reducible refine wipeK_c ?_)
  | ((with_reducible show backK _ _ _ _); first | with_reducible refine backK_n ?_ | with_reducible refine backK_c ?_)
  | ((with_reducible show unlK _ _ _); first | with_reducible refine unlK_n ?_ | with_reducible refine unlK_c (by with_unfolding_all exact rfl) ?_)
  | ((with_reducible show lp _ _ _); first | with_reducible refine lp_nx ?_ | with_reducible refine lp_ct ?_ | with_reducible refine lp_bk ?_ | with_reducible refine lp_rt ?_)
  | ((with_reducible show unF _ _ _); first | with_reducible refine unF_nx ?_ | with_reducible refine unF_rt ?_)
  | ((with_reducible show exJ _ _ _ _); first | with_reducible refine exJ_nx ?_ | with_reducible refine exJ_rt ?_)
  | ((with_reducible show Kee _ _ _); first | with_reducible refine kee_fre ?_ | with_reducible refine kee_dat ?_ | with_reducible refine kee_pl ?_)
  | ((with_reducible show stsK _ _ _ _); first | with_reducible refine sts_n ?_ | with_reducible refine sts_c ?_)
  | with_reducible refine sameR ?_
  | with_reducible refine body_of ?_
  | with_reducible refine Turn_none ?_
  | with_reducible refine DTurn_none ?_
  | with_reducible refine Turn_some ?_
  | ((with_reducible show Cl _ _ _); nest_cls) | fail))
local macro_rules | `(tactic| nest_room) => `(tactic| repeat' (first
  | exact roks_nil
  | refine' roks_cons ?_ ?_
  | refine' rok_tup ?_
  | refine' rok_lst ?_
  | exact rok_bl
  | exact rok_non
  | exact rok_nat (small_rok (by omega))
  | exact roks_dn (by assumption)
  | exact rok_str (by assumption)
  | fail))
def okD (ds : List Nat) : Prop := ∀ d ∈ ds, d < 1000
theorem okD_nil : okD [] := fun _ h => nomatch h
theorem okD_app {ds es : List Nat} (h : okD ds) (g : okD es) : okD (ds ++ es) := fun d hd => (List.mem_append.mp hd).elim (h d) (g d)
theorem okD_mod (x : Nat) : okD [x % 1000] := fun d hd => by
  simp at hd
  omega
theorem law_number_ok {k : Nat} (z : Int) : callN pgP (k + 1) ix_law_number [.int z] = .ok (.int (z.natAbs : Nat)) false .non := by
  refine Cl_is (go_law_number ?_)
  unfold b_law_number
  leaf_len
  refine iff3 (fun h => ?_) (fun h => ?_)
  · simp at h
    leaf_len
    exact ⟨congrArg D.int (by omega), rfl, rfl⟩
  · simp at h
    leaf_len
    exact ⟨congrArg D.int (by omega), rfl, rfl⟩
local macro_rules | `(tactic| nest_cls) => `(tactic| with_reducible refine Cl_ok (law_number_ok _) ?_)
theorem law_draws_ok {k : Nat} (ns : List Int) (h63 : ns.length ≤ 63) : ∃ ds : List Nat, (okD ds ∧ ds.length ≤ 4000) ∧ callN pgP (k + 2) ix_law_draws [.scr (ns.map .int)] = .ok (.lst (ds.map dn)) true .non := by
  refine Cl_ex (io := fun _ => .non) (go_law_draws ?_)
  leaf_len
  refine For_inv (as := ns) (fi := D.int) (fun pre ρ => ∃ ds : List Nat, okD ds ∧ ds.length ≤ 60 * pre.length ∧ ∃ s2 s3 s4 s5 s6, ρ = [.val (.scr (ns.map .int)), .own 0 (.lst (ds.map dn)), s2, s3, s4, s5, s6] ∧ okQ s2 ∧ okQ s3 ∧ okQ s4 ∧ okQ s5 ∧ okQ s6) rfl (.inl rfl) ?_ ?_ ?_
  · exact ⟨[], okD_nil, Nat.zero_le _, _, _, _, _, _, rfl, trivial, trivial, trivial, trivial, trivial⟩
  · rintro pre z post e ρ ⟨ds, h1, h2, s2, s3, s4, s5, s6, rfl, k2, k3, k4, k5, k6⟩
    have hp := split_lt e
    leaf_len
    refine iff3 (fun h => ?_) (fun h => ?_)
    · leaf_len
      refine For_inv (as := List.range 60) (fi := dn) (fun p2 ρ => ∃ (ds : List Nat) (r : Nat), okD ds ∧ ds.length ≤ 60 * pre.length + p2.length ∧ ∃ s4, ρ = [.val (.scr (ns.map .int)), .own 0 (.lst (ds.map dn)), .val (.int z), .val (.int (r : Nat)), s4, s5, s6] ∧ okQ s4) rfl (.inl rfl) ?_ ?_ ?_
      · exact ⟨ds, _, h1, by simpa using h2, _, rfl, k4⟩
      · rintro p2 j post2 e2 ρ ⟨ds, r, h1, h2, s4, rfl, k4⟩
        have hp2 := split_lt e2
        simp at hp2
        leaf_len
        refine iff3 (fun h => ?_) (fun h => ?_)
        · leaf_len
          exact ⟨ds, h1, by simp; omega, _, _, _, _, _, rfl, trivial, trivial, trivial, k5, k6⟩
        · leaf_len
          exact ⟨_, _, okD_app h1 (okD_mod _), by simp; omega, _, rfl, trivial⟩
      · rintro ρ ⟨ds, r, h1, h2, s4, rfl, k4⟩
        leaf_len
        exact ⟨ds, h1, by simp at h2 ⊢; omega, _, _, _, _, _, rfl, trivial, trivial, k4, k5, k6⟩
    · leaf_len
      refine mq_extendM (bs := [_, _, _]) rfl (line_le (by simp; omega)) ?_
      leaf_len
      exact ⟨_, okD_app h1 (okD_app (okD_mod _) (okD_app (okD_mod _) (okD_mod _))), by simp; omega, _, _, _, _, _, rfl, trivial, trivial, k4, trivial, trivial⟩
  · rintro ρ ⟨ds, h1, h2, s2, s3, s4, s5, s6, rfl, k2, k3, k4, k5, k6⟩
    leaf_len
    exact ⟨ds.reverse, ⟨fun d hd => h1 d (List.mem_reverse.mp hd), by simp; omega⟩, rfl, rfl, rfl⟩
def nx (ds : List Nat) : Nat := ds.getLast?.getD 0
theorem law_next_ok {k : Nat} (ds : List Nat) : callN pgP (k + 1) ix_law_next [.lst (ds.map dn)] = .ok (.int (nx ds : Nat)) false (.lst (ds.dropLast.map dn)) := by
  refine Cl_isIo (go_law_next ?_)
  rcases ds.eq_nil_or_concat with rfl | ⟨es, d, rfl⟩
  · leaf_len
    exact ⟨rfl, rfl, rfl⟩
  · rw [List.concat_eq_append]
    leaf_len
    refine iff3 (fun h => ?_) (fun h => ?_)
    · leaf_len
      refine ⟨?_, rfl, ?_⟩
      · simp [nx]
      · simp
    · simp at h
local macro_rules | `(tactic| nest_cls) => `(tactic| with_reducible refine Cl_ok (law_next_ok _) ?_)
theorem law_more_ok {k m : Nat} (hm : m ≤ 1000) (ds : List Nat) (hd : ds.length ≤ 4000) : ∃ es : List Nat, es.length ≤ 5000 ∧ callN pgP (k + 2) ix_law_more [.lst (ds.map dn), .int (m : Nat)] = .ok (.lst (es.map dn)) true (.lst (ds.dropLast.dropLast.map dn)) := by
  refine Cl_ex (io := fun _ => .lst (ds.dropLast.dropLast.map dn)) (go_law_more ?_)
  leaf_len
  refine For_inv (as := List.range m) (fi := dn) (fun pre ρ => ∃ (r : Nat) (ms : List Nat) (s4 : Sl), ms.length = pre.length ∧ ρ = [.own 1 (.lst (ds.dropLast.dropLast.map dn)), .val (.int (m : Nat)), .val (.int (r : Nat)), .own 0 (.lst (ms.map dn)), s4] ∧ okQ s4) rfl (.inl rfl) ?_ ?_ ?_
  · exact ⟨_, [], _, rfl, rfl, trivial⟩
  · rintro pre j post e ρ ⟨r, ms, s4, hm, rfl, k4⟩
    have hp := split_lt e
    simp at hp
    leaf_len
    exact ⟨_, _, _, by simp [hm], rfl, trivial⟩
  · rintro ρ ⟨r, ms, s4, hm2, rfl, k4⟩
    simp at hm2
    have : ds.dropLast.dropLast.length ≤ 4000 := by simp; omega
    leaf_len
    exact ⟨_, by simp [hm2]; omega, rfl, rfl, rfl⟩
theorem law_power_ok {k : Nat} {w : Nat} (hw : w < 2 ^ 62) : callN pgP (k + 1) ix_law_power [.int (w : Nat)] = .ok (.int ((2 ^ w : Nat) : Int)) false .non := by
  refine Cl_is (go_law_power ?_)
  leaf_len
  refine For_inv (as := List.range w) (fi := dn) (fun pre ρ => ∃ s2, ρ = [.val (.int (w : Nat)), .val (.int ((2 ^ pre.length : Nat) : Int)), s2] ∧ okQ s2) rfl (.inl rfl) ?_ ?_ ?_
  · exact ⟨_, rfl, trivial⟩
  · rintro pre j post e ρ ⟨s2, rfl, k2⟩
    leaf_len
    rw [List.length_append, List.length_singleton, Nat.pow_succ, Nat.mul_comm]
    exact ⟨_, rfl, trivial⟩
  · rintro ρ ⟨s2, rfl, k2⟩
    leaf_len
    exact ⟨by simp, rfl, rfl⟩
local macro_rules | `(tactic| nest_cls) => `(tactic| first | with_reducible refine Cl_ok (law_power_ok (by omega)) ?_ | with_reducible refine Cl_ok (law_power_ok ?_) ?_)
theorem pow9000 {w : Nat} (h : w < 9000) : 2 ^ w < 2 ^ 9000 := Nat.pow_lt_pow_right (by decide) h
theorem law_on_ok {k : Nat} {s w : Nat} (hw : w < 9000) : callN pgP (k + 2) ix_law_on [.int (s : Nat), .int (w : Nat)] = .ok (.int ((s / 2 ^ w % 2 : Nat) : Int)) false .non := by
  refine Cl_is (go_law_on ?_)
  leaf_len
  · exact Nat.two_pow_pos w
  · exact pow9000 hw
  · leaf_len
    exact ⟨rfl, rfl, rfl⟩
local macro_rules | `(tactic| nest_cls) => `(tactic| first | with_reducible refine Cl_ok (law_on_ok (by omega)) ?_ | with_reducible refine Cl_ok (law_on_ok ?_) ?_)
def errT : List D := [(.str ("!other" : Str)), (.str ("!net" : Str)), (.str ("!standing" : Str)), (.str ("!cube" : Str)), (.str ("!paper" : Str)), (.str ("!number" : Str)), (.str ("!none" : Str)), (.str ("!large" : Str))]
theorem kch {c : Nat} {d : D} {pl : List D} {f : Nat → List D → COut} {Q : Fl → Prop} {E : ER} (hc : errT[c]? = some d) (q : ∀ ρ, Q (.rt (.dat d) ρ)) : Kch (pgP.gm f) 0 errT Q E c pl := by
  have h8 : c < 8 := (List.getElem?_eq_some_iff.mp hc).1
  refine .inl ⟨?_, d, hc, q⟩
  have : c = 0 ∨ c = 1 ∨ c = 2 ∨ c = 3 ∨ c = 4 ∨ c = 5 ∨ c = 6 ∨ c = 7 := by omega
  rcases this with rfl | rfl | rfl | rfl | rfl | rfl | rfl | rfl <;> rfl
abbrev sNet : D := .str ("!net" : Str)
abbrev sSt : D := .str ("!standing" : Str)
abbrev sNum : D := .str ("!number" : Str)
theorem iffT {z : Bool} {P R : Prop} (h : z = true) (p : P) : Iff3 z P R := ⟨fun _ => p, fun e => by rw [h] at e; cases e⟩
theorem iffF {z : Bool} {P R : Prop} (h : z = false) (p : R) : Iff3 z P R := ⟨fun e => (by rw [h] at e; cases e), fun _ => p⟩
theorem any_eqv {α : Type} (f : α → Nat) (c : Nat) : ∀ l : List α, ((l.map fun a => D.int ((f a : Nat) : Int)).any fun y => y.eqv (.int (c : Nat))) = decide (c ∈ l.map f)
  | [] => by simp
  | a :: l => by
    rw [List.map_cons, List.any_cons, any_eqv f c l, List.map_cons]
    have : D.eqv (.int ((f a : Nat) : Int)) (.int (c : Nat)) = decide (c = f a) := by
      simp only [D.eqv]
      by_cases h : c = f a
      · simp [h]
      · simp [h]
        omega
    rw [this]
    simp
theorem plains_ints {α : Type} (f : α → Nat) : ∀ l : List α, D.plains (l.map fun a => D.int ((f a : Nat) : Int)) = true ∧ D.deps (l.map fun a => D.int ((f a : Nat) : Int)) = 0
  | [] => ⟨rfl, rfl⟩
  | a :: l => by
    obtain ⟨h1, h2⟩ := plains_ints f l
    rw [List.map_cons, D.plains, D.deps, h1, h2]
    exact ⟨rfl, rfl⟩
theorem fit_ints {α : Type} (f : α → Nat) (l : List α) : fit (.lst (l.map fun a => D.int ((f a : Nat) : Int))) = true := by
  obtain ⟨h1, h2⟩ := plains_ints f l
  simp [fit, D.plain, D.dep, h1, h2]
theorem bq_minL {K : R → Prop} {l : List D} {ns : List Nat} (e : l = ns.map fun a => D.int ((a : Nat) : Int)) (hl : ns ≠ []) (h : K (.dat (.int (((ns.min?.getD 0 : Nat)) : Int)))) : Blt .min (some [.lst l]) K := by
  rw [e]
  refine bq_minN (f := fun x => x) hl ?_
  simpa using h
theorem bq_maxL {K : R → Prop} {l : List D} {ns : List Nat} (e : l = ns.map fun a => D.int ((a : Nat) : Int)) (hl : ns ≠ []) (h : K (.dat (.int (((ns.max?.getD 0 : Nat)) : Int)))) : Blt .max (some [.lst l]) K := by
  rw [e]
  refine bq_maxN (f := fun x => x) hl ?_
  simpa using h
theorem cut_from {α : Type} (xs : List α) (k : Nat) (h : k < 2 ^ 62) : cutL xs (some ((k : Nat) : Int)) none = xs.drop k := by
  unfold cutL clip
  have e : (if ((k : Nat) : Int) < 0 then max (((k : Nat) : Int) + (xs.length : Int)) 0 else min ((k : Nat) : Int) (xs.length : Int)).toNat = min k xs.length := by
    rw [if_neg (by omega)]
    omega
  simp only [e]
  by_cases c : k ≤ xs.length
  · rw [Nat.min_eq_left c]
    exact List.take_of_length_le (by simp)
  · rw [Nat.min_eq_right (by omega), List.drop_of_length_le (Nat.le_refl _), List.drop_of_length_le (by omega)]
    simp
/-- the number with such binary places -/
def ofB (n : Nat) (f : Nat → Nat) : Nat := ((List.range n).map fun i => f i * 2 ^ i).sum
theorem two_le {n : Nat} (h : n ≤ 8) : 2 ^ n ≤ 256 := Nat.pow_le_pow_right (by decide) h
theorem law_table_ok {k n : Nat} {rs : List Nat} (hn : rs.length = n) (h8 : n ≤ 8) : callN pgP (k + 3) ix_law_table [.tup [.int (n : Nat), .tup (rs.map dn)]] = .ok (.lst (((List.range (2 ^ n)).map fun s => ofB n fun i => rs.getD i 0 / 2 ^ s % 2).map dn)) true .non := by
  have h2 := two_le h8
  rw [List.map_map]
  refine Cl_is (go_law_table ?_)
  leaf_len
  apply Comp_map rfl rfl (line_le (by simp; omega))
  · leaf_len
    intro s hs
    simp at hs
    leaf_len
    apply Comp_map rfl rfl (line_le (by simp; omega))
    · leaf_len
      intro i hi
      simp at hi
      leaf_len
      exact ⟨rfl, rfl⟩
    · leaf_len
      exact ⟨rfl, rfl⟩
  · leaf_len
    exact ⟨rfl, rfl, rfl⟩
theorem ofB_succ (n : Nat) (f : Nat → Nat) : ofB (n + 1) f = ofB n f + f n * 2 ^ n := by
  unfold ofB
  rw [List.range_succ, List.map_append, List.sum_append]
  simp
theorem ofB_lt {f : Nat → Nat} : ∀ {n : Nat}, (∀ i, i < n → f i < 2) → ofB n f < 2 ^ n
  | 0, _ => by simp [ofB]
  | n + 1, h => by
    have h1 := ofB_lt (f := f) (n := n) fun i hi => h i (by omega)
    have h2 := h n (by omega)
    rw [ofB_succ, Nat.pow_succ]
    have h3 : f n * 2 ^ n ≤ 1 * 2 ^ n := Nat.mul_le_mul_right _ (by omega)
    omega
theorem ofB_bit {f : Nat → Nat} : ∀ {n : Nat}, (∀ i, i < n → f i < 2) → ∀ j, j < n → ofB n f / 2 ^ j % 2 = f j
  | 0, _, j, hj => absurd hj (Nat.not_lt_zero j)
  | n + 1, h, j, hj => by
    have h1 := ofB_lt (f := f) (n := n) fun i hi => h i (by omega)
    rw [ofB_succ]
    have h2 := h n (by omega)
    by_cases e : j = n
    · subst e
      rw [Nat.add_mul_div_right _ _ (Nat.two_pow_pos j), Nat.div_eq_of_lt h1]
      omega
    · have hj' : j < n := by omega
      have e1 : f n * 2 ^ n = (f n * 2 ^ (n - j - 1) * 2) * 2 ^ j := by
        have : 2 ^ n = 2 ^ (n - j - 1) * 2 * 2 ^ j := by
          rw [← Nat.pow_succ, ← Nat.pow_add]
          congr 1
          omega
        rw [this]
        simp [Nat.mul_assoc]
      rw [e1, Nat.add_mul_div_right _ _ (Nat.two_pow_pos j), ← ofB_bit (f := f) (n := n) (fun i hi => h i (by omega)) j hj']
      omega
theorem ofB_congr {f g : Nat → Nat} {n : Nat} (h : ∀ i, i < n → f i = g i) : ofB n f = ofB n g := by
  unfold ofB
  rw [List.map_congr_left fun i hi => by rw [h i (List.mem_range.mp hi)]]
abbrev netD (n : Nat) (rs : List Nat) : D := .tup [.int (n : Nat), .tup (rs.map dn)]
structure Net (n : Nat) (rs : List Nat) : Prop where
  pos : 1 ≤ n
  len : rs.length = n
  lt : ∀ r ∈ rs, r < 2 ^ 2 ^ n
theorem law_net_of_ok {k n : Nat} {ts : List Nat} (hn : ts.length = 2 ^ n) (h8 : n ≤ 8) : callN pgP (k + 3) ix_law_net_of [.int (n : Nat), .lst (ts.map dn)] = .ok (netD n ((List.range n).map fun i => ofB (2 ^ n) fun s => ts.getD s 0 / 2 ^ i % 2)) false .non := by
  have h2 := two_le h8
  rw [netD, List.map_map]
  refine Cl_is (go_law_net_of ?_)
  leaf_len
  apply Comp_map rfl rfl (line_le (by simp; omega))
  · leaf_len
    intro s hs
    simp at hs
    leaf_len
    apply Comp_map rfl rfl (line_le (by simp; omega))
    · leaf_len
      intro i hi
      simp at hi
      leaf_len
      exact ⟨rfl, rfl⟩
    · leaf_len
      exact ⟨rfl, rfl⟩
  · leaf_len
    exact ⟨rfl, rfl, rfl⟩
local macro_rules | `(tactic| nest_cls) => `(tactic| first | with_reducible refine Cl_ok (law_net_of_ok (by assumption) (by omega)) ?_ | with_reducible refine Cl_ok (law_net_of_ok ?_ ?_) ?_)
theorem law_literal_ok {k n : Nat} (ds : List Nat) (hn : 0 < n) : ∃ p : Nat × Nat, (p.1 < n ∧ p.2 < 2) ∧ callN pgP (k + 2) ix_law_literal [.lst (ds.map dn), .int (n : Nat)] = .ok (.lst [dn p.1, dn p.2]) true (.lst (ds.dropLast.dropLast.map dn)) := by
  refine Cl_ex (io := fun _ => .lst (ds.dropLast.dropLast.map dn)) (go_law_literal ?_)
  leaf_len
  exact ⟨(_, _), ⟨Nat.mod_lt _ hn, Nat.mod_lt _ (by decide)⟩, rfl, rfl, rfl⟩
theorem okD_dl {ds : List Nat} (h : okD ds) : okD ds.dropLast := fun d hd => h d (List.dropLast_subset _ hd)
theorem nx_lt {ds : List Nat} (h : okD ds) : nx ds < 1000 := by
  unfold nx
  cases e : ds.getLast? with
  | none => decide
  | some d => exact h d (List.mem_of_getLast? e)
theorem law_more_okD {k m : Nat} (hm : m ≤ 1000) (ds : List Nat) (hds : okD ds) (hd : ds.length ≤ 4000) : ∃ es : List Nat, (okD es ∧ es.length ≤ 5000) ∧ callN pgP (k + 2) ix_law_more [.lst (ds.map dn), .int (m : Nat)] = .ok (.lst (es.map dn)) true (.lst (ds.dropLast.dropLast.map dn)) := by
  refine Cl_ex (io := fun _ => .lst (ds.dropLast.dropLast.map dn)) (go_law_more ?_)
  leaf_len
  refine For_inv (as := List.range m) (fi := dn) (fun pre ρ => ∃ (r : Nat) (ms : List Nat) (s4 : Sl), okD ms ∧ ms.length = pre.length ∧ ρ = [.own 1 (.lst (ds.dropLast.dropLast.map dn)), .val (.int (m : Nat)), .val (.int (r : Nat)), .own 0 (.lst (ms.map dn)), s4] ∧ okQ s4) rfl (.inl rfl) ?_ ?_ ?_
  · exact ⟨_, [], _, okD_nil, rfl, rfl, trivial⟩
  · rintro pre j post e ρ ⟨r, ms, s4, ho, hm, rfl, k4⟩
    have hp := split_lt e
    simp at hp
    leaf_len
    exact ⟨_, _, _, okD_app ho (okD_mod _), by simp [hm], rfl, trivial⟩
  · rintro ρ ⟨r, ms, s4, ho, hm2, rfl, k4⟩
    simp at hm2
    have : ds.dropLast.dropLast.length ≤ 4000 := by simp; omega
    leaf_len
    exact ⟨_, ⟨okD_app ho (okD_dl (okD_dl hds)), by simp [hm2]; omega⟩, rfl, rfl, rfl⟩
theorem noOwn_ok {ρ : Rho} {vs : List Nat} (h : ∀ i ∈ vs, okV (ρ[i]?.getD .no) ∧ i < ρ.length) : noOwn ρ vs = true := by
  unfold noOwn
  refine List.all_eq_true.mpr fun i hi => ?_
  obtain ⟨h1, h2⟩ := h i hi
  rw [List.getElem?_eq_getElem h2] at h1 ⊢
  revert h1
  simp only [Option.getD_some]
  cases ρ[i] <;> simp [okV]
theorem ne_len {α : Type} {l : List α} (h : 0 < l.length) : l ≠ [] := by
  rintro rfl
  exact absurd h (Nat.lt_irrefl 0)
theorem getD_mem {l : List Nat} {k x : Nat} (h : k < l.length) : l.getD k x ∈ l := by
  rw [List.getD_eq_getElem?_getD, List.getElem?_eq_getElem h]
  exact List.getElem_mem _
theorem bnat (z : Bool) : z.toNat < 2 := by cases z <;> decide
theorem law_net_okD {k most : Nat} (ds : List Nat) (hd : okD ds) (hm : 0 < most) (h8 : most ≤ 8) : ∃ x : Nat × List Nat × List Nat, (Net x.1 x.2.1 ∧ x.1 ≤ most ∧ okD x.2.2) ∧ callN pgP (k + 4) ix_law_net [.lst (ds.map dn), .int (most : Nat)] = .ok (netD x.1 x.2.1) false (.lst (x.2.2.map dn)) := by
  refine Cl_ex (io := fun (x : Nat × List Nat × List Nat) => .lst (x.2.2.map dn)) (go_law_net ?_)
  have hn : 1 + nx ds % most ≤ most := by
    have := Nat.mod_lt (nx ds) hm
    omega
  have hn1 : 1 ≤ 1 + nx ds % most := by omega
  leaf_len
  generalize 1 + nx ds % most = n at hn hn1 ⊢
  generalize hkd : nx ds.dropLast % 4 = kd
  have hd := okD_dl (okD_dl hd)
  generalize ds.dropLast.dropLast = ds at hd
  have h2 : 2 ^ n ≤ 256 := two_le (by omega)
  have h2p := Nat.two_pow_pos n
  refine iff3 (fun h => ?_) (fun h => ?_)
  · leaf_len
    refine Comp_inv (as := List.range (2 ^ n)) (fi := dn) dn (fun pre ys ρ => ys.length = pre.length ∧ ∃ es : List Nat, okD es ∧ ρ = [.own 1 (.lst (es.map dn)), .val (.int (most : Nat)), .val (.int (n : Nat)), .val (.int (kd : Nat)), .val (.int ((2 ^ n : Nat) : Int)), .no, .no, .no, .no, .no, .no, .no, .no, .no]) rfl rfl ?_ ?_ ?_
    · leaf_len
      exact ⟨rfl, _, hd, rfl⟩
    · rintro pre a post e ys ρ ⟨hy, es, hd, rfl⟩
      leaf_len
      exact .inl ⟨_, rfl, by simp [hy], _, okD_dl (okD_dl hd), rfl⟩
    · rintro ys ρ ⟨hy, es, hd, rfl⟩
      simp at hy
      refine ⟨line_le (by omega), ?_⟩
      leaf_len
      refine ⟨(n, _, es), ⟨⟨by omega, by simp, ?_⟩, hn, hd⟩, rfl, rfl, rfl⟩
      intro r hr
      obtain ⟨i, hi, rfl⟩ := List.mem_map.mp hr
      exact ofB_lt fun s hs => Nat.mod_lt _ (by decide)
  · leaf_len
    refine For_inv (as := List.range n) (fi := dn) (fun pre ρ => ∃ (es rules : List Nat) (s6 s7 s8 s9 s10 s11 : Sl), okD es ∧ rules.length = pre.length ∧ (∀ r ∈ rules, r < 2 ^ 2 ^ n) ∧ ρ = [.own 1 (.lst (es.map dn)), .val (.int (most : Nat)), .val (.int (n : Nat)), .val (.int (kd : Nat)), .val (.int ((2 ^ n : Nat) : Int)), .own 0 (.lst (rules.map dn)), s6, s7, s8, s9, s10, s11, .no, .no] ∧ okQ s6 ∧ okQ s7 ∧ okQ s8 ∧ okQ s9 ∧ okV s10 ∧ okQ s11) rfl (.inl rfl) ?_ ?_ ?_
    · exact ⟨_, [], _, _, _, _, _, _, hd, rfl, (fun _ h => nomatch h), rfl, trivial, trivial, trivial, trivial, trivial, trivial⟩
    · rintro pre a post e ρ ⟨es, rules, s6, s7, s8, s9, s10, s11, hd, hr, hlt, rfl, k6, k7, k8, k9, k10, k11⟩
      have hp := split_lt e
      simp at hp
      leaf_len
      refine Comp_inv (as := List.range (1 + nx es % 3)) (fi := dn) (fun (p : Nat × Nat) => .lst [dn p.1, dn p.2]) (fun pre ys ρ => ys.length = pre.length ∧ (∀ p ∈ ys, p.1 < n ∧ p.2 < 2) ∧ ∃ es : List Nat, okD es ∧ ρ = [.own 1 (.lst (es.map dn)), .val (.int (most : Nat)), .val (.int (n : Nat)), .val (.int (kd : Nat)), .val (.int ((2 ^ n : Nat) : Int)), .own 0 (.lst (rules.map dn)), .val (dn a), s7, s8, s9, s10, s11, .no, .no]) rfl rfl ?_ ?_ ?_
      · leaf_len
        exact ⟨rfl, (fun _ h => nomatch h), _, okD_dl hd, rfl⟩
      · rintro pre a post e ys ρ ⟨hy, hys, es, hd, rfl⟩
        leaf_len
        obtain ⟨p, hp, hc⟩ := law_literal_ok (k := k + 1) es (n := n) (by omega)
        refine Cl_ok hc ?_
        leaf_len
        exact .inl ⟨p, rfl, by simp [hy], fun q hq => (List.mem_append.mp hq).elim (hys q) (fun h => by simp at h; subst h; exact hp), _, okD_dl (okD_dl hd), rfl⟩
      · rintro ps ρ ⟨hy, hps, es', hd, rfl⟩
        simp at hy
        have hne : ps ≠ [] := ne_len (by omega)
        refine ⟨line_le (by omega), ?_⟩
        leaf_len
        refine W.mono (Q := fun r ρ => ∃ (w : Nat) (es : List Nat), okD es ∧ w < 3 ∧ r = .dat (.int (w : Nat)) ∧ ρ = [.own 1 (.lst (es.map dn)), .val (.int (most : Nat)), .val (.int (n : Nat)), .val (.int (kd : Nat)), .val (.int ((2 ^ n : Nat) : Int)), .own 0 (.lst (rules.map dn)), .val (dn a), .own 0 (.lst (ps.map fun p => .lst [dn p.1, dn p.2])), s8, s9, s10, s11, .no, .no]) ?_ ?_
        · refine W_ite ?_
          leaf_len
          refine iff3 (fun h => ?_) (fun h => ?_)
          · leaf_len
            exact ⟨_, _, okD_dl hd, Nat.mod_lt _ (by decide), rfl, rfl⟩
          · leaf_len
            exact ⟨_, _, okD_dl hd, by omega, rfl, rfl⟩
        rintro r ρ ⟨w, es, hd, hw, rfl, rfl⟩
        leaf_len
        refine For_inv (as := List.range (2 ^ n)) (fi := dn) (fun pre ρ => ∃ (told : List Nat) (s10 s11 : Sl), told.length = pre.length ∧ (∀ t ∈ told, t < 2) ∧ ρ = [.own 1 (.lst (es.map dn)), .val (.int (most : Nat)), .val (.int (n : Nat)), .val (.int (kd : Nat)), .val (.int ((2 ^ n : Nat) : Int)), .own 0 (.lst (rules.map dn)), .val (dn a), .own 0 (.lst (ps.map fun p => .lst [dn p.1, dn p.2])), .val (.int (w : Nat)), .own 0 (.lst (told.map dn)), s10, s11, .no, .no] ∧ okV s10 ∧ okQ s11) rfl (.inl rfl) ?_ ?_ ?_
        · exact ⟨[], _, _, rfl, (fun _ h => nomatch h), rfl, k10, k11⟩
        · rintro pre j post e ρ ⟨told, s10, s11, ht, hlt2, rfl, k10, k11⟩
          have hp := split_lt e
          simp at hp
          leaf_len
          apply Comp_map rfl rfl (line_le (by omega))
          · leaf_len
            intro p hp
            have := hps p hp
            leaf_len
            exact ⟨rfl, rfl⟩
          · leaf_len
            generalize hb : (fun p : Nat × Nat => (!decide (j / 2 ^ p.1 % 2 = p.2 * (decide (kd < 3)).toNat)).toNat) = b
            have hb2 : ∀ p, b p < 2 := fun p => by
              rw [← hb]
              exact bnat _
            have hm2 : ∀ x ∈ ps.map b, x < 2 := fun x hx => by
              obtain ⟨p, _, rfl⟩ := List.mem_map.mp hx
              exact hb2 p
            have hm1 : ps.map b ≠ [] := fun z => hne (List.map_eq_nil_iff.mp z)
            obtain ⟨v, hv, e3⟩ : ∃ v, v < 2 ∧ [D.int ((((ps.map b).min?.getD 0 : Nat)) : Int), .int ((((ps.map b).max?.getD 0 : Nat)) : Int), .int ((((ps.map b).sum % 2 : Nat)) : Int)][w]? = some (.int (v : Nat)) := by
              have : w = 0 ∨ w = 1 ∨ w = 2 := by omega
              rcases this with rfl | rfl | rfl
              · exact ⟨_, min_of (P := (· < 2)) hm2 hm1, rfl⟩
              · exact ⟨_, max_of (P := (· < 2)) hm2 hm1, rfl⟩
              · exact ⟨_, Nat.mod_lt _ (by decide), rfl⟩
            refine ix_lst e3 ?_
            leaf_len
            exact ⟨_, _, _, by simp [ht], fun t h => (List.mem_append.mp h).elim (hlt2 t) (fun h => by simp at h; subst h; exact hv), rfl, trivial, trivial⟩
        · rintro ρ ⟨told, s10, s11, ht, hlt2, rfl, k10, k11⟩
          simp at ht
          leaf_len
          refine Comp_map (as := List.range (2 ^ n)) (fo := fun s => .int ((told.getD s 0 * 2 ^ s : Nat) : Int)) rfl ?_ (line_le (by simp; omega)) ?_ ?_
          · exact noOwn_ok fun i hi => by
              simp at hi
              subst hi
              exact ⟨k10, by simp⟩
          · leaf_len
            intro s hs
            simp at hs
            have hg : told.getD s 0 < 2 := hlt2 _ (getD_mem (by omega))
            leaf_len
            exact ⟨rfl, rfl⟩
          · leaf_len
            have hl : ofB (2 ^ n) (fun s => told.getD s 0) < 2 ^ 2 ^ n := ofB_lt fun i hi => hlt2 _ (getD_mem (by omega))
            exact ⟨_, _, _, _, _, _, _, _, hd, by simp [hr], fun t h => (List.mem_append.mp h).elim (hlt t) (fun h => by simp at h; subst h; exact hl), rfl, trivial, trivial, trivial, trivial, k10, k11⟩
    · rintro ρ ⟨es, rules, s6, s7, s8, s9, s10, s11, hd, hr, hlt, rfl, k6, k7, k8, k9, k10, k11⟩
      simp at hr
      leaf_len
      exact ⟨(n, rules, es), ⟨⟨hn1, hr, hlt⟩, hn, hd⟩, rfl, rfl, rfl⟩
abbrev netI (n : Nat) (rs : List Int) : D := .tup [.int (n : Nat), .tup (rs.map .int)]
theorem netD_I (n : Nat) (rs : List Nat) : netD n rs = netI n (rs.map fun (r : Nat) => (r : Int)) := by
  unfold netD netI
  rw [List.map_map]
  rfl
def isNet (n : Nat) (rs : List Int) : Bool := decide (1 ≤ n) && decide (n ≤ 8) && decide (rs.length = n) && rs.all fun r => decide (0 ≤ r) && decide (r < ((2 ^ 2 ^ n : Nat) : Int))
theorem is_net_I {k n : Nat} {rs : List Int} (hl : rs.length ≤ 1000) : callN pgP (k + 1) ix_is_net [netI n rs] = .ok (.bl (isNet n rs)) false .non := by
  refine Cl_is (go_is_net ?_)
  leaf_len
  apply W_orB
  leaf_len
  refine ⟨fun h => ?_, ?_⟩
  · leaf_len
    rfl
  leaf_len
  refine iff3 (fun h => ?_) (fun h => ?_)
  · leaf_len
    refine ⟨?_, rfl, rfl⟩
    simp at h
    unfold isNet
    congr 1
    simp
    omega
  · simp at h
    have h2 := two_le h.1.2
    leaf_len
    apply Comp_map (as := rs) (fi := D.int) (by rfl) rfl (line_le (by omega))
    · leaf_len
      intro r hr
      leaf_len
      exact ⟨rfl, rfl⟩
    · leaf_len
      refine ⟨?_, rfl, rfl⟩
      unfold isNet
      congr 1
      simp [h.1.1, h.1.2, h.2]
structure NetK (n : Nat) (rs : List Nat) : Prop extends Net n rs where
  le8 : n ≤ 8
theorem isNet_of {n : Nat} {rs : List Nat} (h : NetK n rs) : isNet n (rs.map fun (r : Nat) => (r : Int)) = true := by
  unfold isNet
  simp [h.pos, h.le8, h.len]
  intro r hr
  have := h.lt r hr
  exact_mod_cast this
theorem NetK.l {n : Nat} {rs : List Nat} (h : NetK n rs) : rs.length ≤ 8 := h.len ▸ h.le8
theorem is_net_ok {k n : Nat} {rs : List Nat} (h : NetK n rs) : callN pgP (k + 1) ix_is_net [netD n rs] = .ok (.bl true) false .non := by
  rw [netD_I, is_net_I (by have := h.l; simp; omega), isNet_of h]
theorem check_net_ok {k n : Nat} {rs : List Nat} (h : NetK n rs) : callN pgP (k + 2) ix_check_net [netD n rs] = .ok .non false .non := by
  refine Cl_is (go_check_net ?_)
  leaf_len
  refine Cl_ok (is_net_ok h) ?_
  leaf_len
  exact ⟨rfl, rfl, rfl⟩
theorem check_net_no {k n : Nat} {rs : List Int} (hl : rs.length ≤ 1000) (h : isNet n rs = false) : callN pgP (k + 2) ix_check_net [netI n rs] = .err 1 [] := by
  refine Cl_erIs (go_check_net ?_)
  leaf_len
  refine Cl_ok (is_net_I hl) ?_
  rw [h]
  leaf_len
  exact ⟨rfl, rfl⟩
local macro_rules | `(tactic| nest_cls) => `(tactic| with_reducible refine Cl_ok (check_net_ok (by assumption)) ?_)
local macro_rules | `(tactic| nest_cls) => `(tactic| with_reducible refine Cl_er (check_net_no (by assumption) (by assumption)) ?_)
/-- the next standing at once -/
def F (rs : List Nat) (s : Nat) : Nat := ofB rs.length fun i => rs.getD i 0 / 2 ^ s % 2
theorem zip_sum (g : Nat → Nat → Nat) (l : List Nat) : (l.zipIdx.map fun p => g p.1 p.2).sum = ((List.range l.length).map fun i => g (l.getD i 0) i).sum := by
  congr 1
  refine List.ext_getElem (by simp) fun i h1 h2 => ?_
  simp at h1 h2 ⊢
  rw [List.getElem?_eq_getElem h2]
  rfl
theorem zip_lt {l : List Nat} {p : Nat × Nat} (h : p ∈ l.zipIdx) : p.2 < l.length := by
  obtain ⟨r, i⟩ := p
  have := List.mem_zipIdx h
  simp at this ⊢
  omega
theorem to_be_ok {k n s : Nat} {rs : List Nat} (hl : rs.length ≤ 8) : callN pgP (k + 1) ix_to_be [netD n rs, .int (s : Nat)] = .ok (.int ((F rs s : Nat) : Int)) false .non := by
  refine Cl_is (go_to_be ?_)
  leaf_len
  rw [enumD_map]
  apply Comp_map (as := rs.zipIdx) (fi := fun p => .tup [.int ((p.2 : Nat) : Int), dn p.1]) rfl rfl (line_le (by simp; omega))
  · leaf_len
    intro p hp
    have hi := zip_lt hp
    have hb := Nat.mod_lt (p.1 / 2 ^ s) (y := 2) (by decide)
    leaf_len
    exact ⟨rfl, rfl⟩
  · leaf_len
    refine ⟨?_, rfl, rfl⟩
    rw [F, ofB, ← zip_sum fun r i => r / 2 ^ s % 2 * 2 ^ i]
local macro_rules | `(tactic| nest_cls) => `(tactic| with_reducible refine Cl_ok (to_be_ok (by omega)) ?_)
theorem F_lt {n s : Nat} {rs : List Nat} (h : rs.length = n) : F rs s < 2 ^ n := by
  unfold F
  rw [h]
  exact ofB_lt fun i _ => Nat.mod_lt _ (by decide)
theorem table_by_ok {k n : Nat} {rs : List Nat} (hn : n ≤ 8) (hl : rs.length ≤ 8) : callN pgP (k + 2) ix_table_by [netD n rs] = .ok (.lst (((List.range (2 ^ n)).map fun s => F rs s).map dn)) true .non := by
  rw [List.map_map]
  refine Cl_is (go_table_by ?_)
  have := two_le hn
  leaf_len
  apply Comp_map rfl rfl (line_le (by simp; omega))
  · leaf_len
    intro i hi
    leaf_len
    exact ⟨rfl, rfl⟩
  · leaf_len
    exact ⟨rfl, rfl, rfl⟩
local macro_rules | `(tactic| nest_cls) => `(tactic| with_reducible refine Cl_ok (table_by_ok (by omega) (by omega)) ?_)
theorem check_standing_ok {k n s : Nat} {rs : List Nat} (h : NetK n rs) (hs : s < 2 ^ n) : callN pgP (k + 3) ix_check_standing [netD n rs, .int (s : Nat)] = .ok .non false .non := by
  refine Cl_is (go_check_standing ?_)
  have := h.le8
  leaf_len
  refine iff3 (fun h => ?_) (fun h => ?_)
  · simp at h
    omega
  · leaf_len
    exact ⟨rfl, rfl, rfl⟩
theorem check_standing_no {k n : Nat} {s : Int} {rs : List Nat} (h : NetK n rs) (hs : s < 0 ∨ ((2 ^ n : Nat) : Int) ≤ s) : callN pgP (k + 3) ix_check_standing [netD n rs, .int s] = .err 2 [] := by
  refine Cl_erIs (go_check_standing ?_)
  have := h.le8
  leaf_len
  refine iff3 (fun h => ?_) (fun h => ?_)
  · leaf_len
    exact ⟨rfl, rfl⟩
  · simp at h
    simp at hs
    omega
theorem check_standing_bad {k n : Nat} {s : D} {rs : List Int} (hl : rs.length ≤ 1000) (h : isNet n rs = false) : callN pgP (k + 3) ix_check_standing [netI n rs, s] = .err 1 [] := by
  refine Cl_erIs (go_check_standing ?_)
  leaf_len
  exact ⟨rfl, rfl⟩
local macro_rules | `(tactic| nest_cls) => `(tactic| with_reducible refine Cl_ok (check_standing_ok (by assumption) (by assumption)) ?_)
local macro_rules | `(tactic| nest_cls) => `(tactic| with_reducible refine Cl_er (check_standing_no (by assumption) (by assumption)) ?_)
local macro_rules | `(tactic| nest_cls) => `(tactic| with_reducible refine Cl_er (check_standing_bad (by assumption) (by assumption)) ?_)
/-- the rules of the net with such next standings -/
def nof (n : Nat) (ts : List Nat) : List Nat := (List.range n).map fun i => ofB ts.length fun s => ts.getD s 0 / 2 ^ i % 2
theorem net_of_ok {k n : Nat} {ts : List Nat} {sq : D} (hsq : sq = .lst (ts.map dn) ∨ sq = .tup (ts.map dn)) (hn : n ≤ 64) (hl : ts.length ≤ 1000) : callN pgP (k + 1) ix_net_of [.int (n : Nat), sq] = .ok (netD n (nof n ts)) false .non := by
  refine Cl_is (go_net_of ?_)
  leaf_len
  refine For_inv (as := List.range n) (fi := dn) (fun pre ρ => ∃ (s3 : Sl), ρ = [.val (.int (n : Nat)), .val sq, .own 0 (.lst ((pre.map fun i => ofB ts.length fun s => ts.getD s 0 / 2 ^ i % 2).map dn)), s3, .no, .no] ∧ okQ s3) rfl (.inl rfl) ?_ ?_ ?_
  · exact ⟨_, rfl, trivial⟩
  · rintro pre i post e ρ ⟨s3, rfl, k3⟩
    have hp := split_lt e
    simp at hp
    have hsq' : seq? sq = some (ts.map dn) := by rcases hsq with rfl | rfl <;> rfl
    have hsq2 : parts? sq = some (ts.map dn) := by rcases hsq with rfl | rfl <;> rfl
    leaf_len
    refine lendE (x := ts.map dn) hsq2 (lend_dat hsq' ?_)
    rw [enumD_map]
    apply Comp_map (as := ts.zipIdx) (fi := fun p => .tup [.int ((p.2 : Nat) : Int), dn p.1]) rfl rfl (line_le (by simp; omega))
    · leaf_len
      intro p hp
      have hi := zip_lt hp
      have hb := Nat.mod_lt (p.1 / 2 ^ i) (y := 2) (by decide)
      leaf_len
      exact ⟨rfl, rfl⟩
    · leaf_len
      · exact line_lt (by simp; omega)
      refine ⟨.val (dn i), ?_, trivial⟩
      rw [zip_sum fun r s => r / 2 ^ i % 2 * 2 ^ s]
      simp [ofB]
  · rintro ρ ⟨s3, rfl, k3⟩
    leaf_len
    exact ⟨rfl, rfl, rfl⟩
local macro_rules | `(tactic| nest_cls) => `(tactic| with_reducible refine Cl_ok (net_of_ok (.inl rfl) (by omega) (by omega)) ?_)
/-- the place behind i steps -/
def it (f : Nat → Nat) (s : Nat) : Nat → Nat
  | 0 => s
  | i + 1 => f (it f s i)
theorem it_add (f : Nat → Nat) (s i : Nat) : ∀ j, it f (it f s i) j = it f s (i + j)
  | 0 => rfl
  | j + 1 => by
    show f (it f (it f s i) j) = f (it f s (i + j))
    rw [it_add f s i j]
theorem it_next (f : Nat → Nat) (s i : Nat) : it f (f s) i = it f s (i + 1) := by
  have := it_add f s 1 i
  rw [Nat.add_comm 1 i] at this
  exact this
theorem it_lt {f : Nat → Nat} {N s : Nat} (cl : ∀ x, x < N → f x < N) (hs : s < N) : ∀ i, it f s i < N
  | 0 => hs
  | i + 1 => cl _ (it_lt cl hs i)
/-- t steps to a round of p -/
structure Ld (f : Nat → Nat) (s t p : Nat) : Prop where
  pos : 0 < p
  inj : ∀ i j, i < t + p → j < t + p → it f s i = it f s j → i = j
  back : it f s (t + p) = it f s t
theorem Ld.uniq {f : Nat → Nat} {s t p t' p' : Nat} (h : Ld f s t p) (g : Ld f s t' p') : t = t' ∧ p = p' := by
  have hp := h.pos
  have gp := g.pos
  have e : t + p = t' + p' := by
    rcases Nat.lt_trichotomy (t + p) (t' + p') with c | c | c
    · have := g.inj (t + p) t c (by omega) h.back
      omega
    · exact c
    · have := h.inj (t' + p') t' c (by omega) g.back
      omega
  have : t = t' := h.inj t t' (by omega) (by omega) (by rw [← h.back, ← g.back, e])
  omega
theorem Ld.next {f : Nat → Nat} {s t p : Nat} (h : Ld f s (t + 1) p) : Ld f (f s) t p := by
  refine ⟨h.pos, fun i j hi hj e => ?_, ?_⟩
  · rw [it_next, it_next] at e
    have := h.inj _ _ (by omega) (by omega) e
    omega
  · rw [it_next, it_next]
    have := h.back
    rw [show t + 1 + p = t + p + 1 by omega] at this
    exact this
theorem Ld.per {f : Nat → Nat} {s t p : Nat} (h : Ld f s t p) (k : Nat) : it f s (t + p + k) = it f s (t + k) := by
  rw [← it_add, h.back, it_add]
theorem Ld.at {f : Nat → Nat} {s t p : Nat} (h : Ld f s t p) {i : Nat} (hi : i < p) : Ld f (it f s (t + i)) 0 p := by
  have hp := h.pos
  refine ⟨hp, fun a b ha hb e => ?_, ?_⟩
  · rw [it_add, it_add] at e
    have key : ∀ a, a < p → it f s (t + i + a) = it f s (t + (if i + a < p then i + a else i + a - p)) := fun a ha => by
      split
      · rw [Nat.add_assoc]
      · rw [← h.per]
        congr 1
        omega
    rw [key a (by omega), key b (by omega)] at e
    have := h.inj _ _ (by split <;> omega) (by split <;> omega) e
    split at this <;> split at this <;> omega
  · rw [it_add, Nat.zero_add]
    show it f s (t + i + p) = it f s (t + i)
    rw [← h.per i]
    congr 1
    omega
def rd (f : Nat → Nat) (s t p : Nat) : List Nat := (List.range p).map fun i => it f s (t + i)
theorem rd_len {f : Nat → Nat} {s t p : Nat} : (rd f s t p).length = p := by simp [rd]
theorem rd_get {f : Nat → Nat} {s t p i : Nat} (h : i < p) : (rd f s t p)[i]? = some (it f s (t + i)) := by
  simp [rd, h]
theorem mem_rd {f : Nat → Nat} {s t p x : Nat} : x ∈ rd f s t p ↔ ∃ i, i < p ∧ it f s (t + i) = x := by
  simp [rd]
/-- the round, its least one first -/
def trn (c : List Nat) : List Nat := c.drop (c.idxOf (c.min?.getD 0)) ++ c.take (c.idxOf (c.min?.getD 0))
theorem idx_get : ∀ {c : List Nat} {m : Nat}, m ∈ c → c[c.idxOf m]? = some m
  | [], m, h => nomatch h
  | a :: c, m, h => by
    rw [List.idxOf_cons]
    by_cases e : a = m
    · subst e
      simp
    · have hm : m ∈ c := (List.mem_cons.mp h).resolve_left fun z => e z.symm
      have e' : (a == m) = false := by simpa using e
      rw [e']
      simpa using idx_get hm
theorem Ld.turn {f : Nat → Nat} {s t p : Nat} (h : Ld f s t p) : ∃ i, i < p ∧ trn (rd f s t p) = rd f (it f s (t + i)) 0 p ∧ ∀ j, j < p → it f s (t + i) ≤ it f (it f s (t + i)) j := by
  have hp := h.pos
  have hne : rd f s t p ≠ [] := fun z => by
    have := congrArg List.length z
    rw [rd_len] at this
    simp at this
    omega
  obtain ⟨m, hm⟩ : ∃ m, (rd f s t p).min? = some m := by
    cases e : (rd f s t p).min? with
    | none => exact absurd (List.min?_eq_none_iff.mp e) hne
    | some m => exact ⟨m, rfl⟩
  have hmm := List.min?_mem hm
  have hle : ∀ x ∈ rd f s t p, m ≤ x := (List.min?_eq_some_iff.mp hm).2
  have hi := idx_get hmm
  have hlt : (rd f s t p).idxOf m < p := by
    have := (List.getElem?_eq_some_iff.mp hi).1
    rwa [rd_len] at this
  generalize ei : (rd f s t p).idxOf m = i at hi hlt
  rw [rd_get hlt] at hi
  have em : it f s (t + i) = m := Option.some.inj hi
  refine ⟨i, hlt, ?_, fun j hj => ?_⟩
  · unfold trn
    rw [hm, Option.getD_some, ei]
    refine List.ext_getElem? fun j => ?_
    by_cases hj : j < p
    · rw [rd_get hj, Nat.zero_add, it_add]
      by_cases hj2 : j < p - i
      · rw [List.getElem?_append_left (by rw [List.length_drop, rd_len]; exact hj2), List.getElem?_drop, rd_get (by omega)]
        congr 2
        omega
      · rw [List.getElem?_append_right (by rw [List.length_drop, rd_len]; omega), List.length_drop, rd_len, List.getElem?_take_of_lt (by omega), rd_get (by omega), ← h.per]
        congr 2
        omega
    · rw [List.getElem?_eq_none (by rw [List.length_append, List.length_drop, List.length_take, rd_len]; omega), List.getElem?_eq_none (by rw [rd_len]; omega)]
  · rw [em]
    have : it f s (t + i + j) ∈ rd f s t p := by
      refine mem_rd.mpr ?_
      by_cases c : i + j < p
      · exact ⟨i + j, c, by rw [Nat.add_assoc]⟩
      · refine ⟨i + j - p, by omega, ?_⟩
        rw [← h.per]
        congr 1
        omega
    have e2 : it f m j = it f s (t + i + j) := by rw [← em, it_add]
    rw [e2]
    exact hle _ this
theorem Ld.mod {f : Nat → Nat} {m p : Nat} (h : Ld f m 0 p) : ∀ k, ∃ j, j < p ∧ it f m k = it f m j := by
  intro k
  have hp := h.pos
  induction k using Nat.strongRecOn with
  | _ k ih =>
    by_cases c : k < p
    · exact ⟨k, c, rfl⟩
    · obtain ⟨j, h1, h2⟩ := ih (k - p) (by omega)
      refine ⟨j, h1, ?_⟩
      rw [← h2]
      have := h.per (k - p)
      rw [show 0 + p + (k - p) = k by omega, Nat.zero_add] at this
      exact this
/-- two rounds, each from its least, that meet are one -/
theorem Ld.meet {f : Nat → Nat} {m p m' p' i j : Nat} (h : Ld f m 0 p) (g : Ld f m' 0 p') (hm : ∀ k, k < p → m ≤ it f m k) (gm : ∀ k, k < p' → m' ≤ it f m' k) (hi : i < p) (hj : j < p') (e : it f m i = it f m' j) : m = m' ∧ p = p' := by
  have one : ∀ {m p m' p' i j : Nat}, Ld f m 0 p → Ld f m' 0 p' → (∀ k, k < p → m ≤ it f m k) → j < p' → it f m i = it f m' j → m ≤ m' := by
    intro m p m' p' i j h g hm hj e
    have e1 : it f m (i + (p' - j)) = m' := by
      rw [← it_add, e, it_add, show j + (p' - j) = 0 + p' by omega, g.back]
      rfl
    obtain ⟨k, hk, e2⟩ := h.mod (i + (p' - j))
    have := hm k hk
    rw [← e2, e1] at this
    exact this
  have em : m = m' := Nat.le_antisymm (one h g hm hj e) (one g h gm hi e.symm)
  subst em
  exact ⟨rfl, (h.uniq g).2⟩
theorem php : ∀ {n : Nat} {l : List Nat}, l.Nodup → (∀ x ∈ l, x < n) → l.length ≤ n
  | 0, l, _, h => by
    cases l with
    | nil => simp
    | cons a l => exact absurd (h a List.mem_cons_self) (Nat.not_lt_zero a)
  | n + 1, l, nd, h => by
    have h1 := php (n := n) (l := l.erase n) (nd.erase n) fun x hx => by
      have := h x (List.mem_of_mem_erase hx)
      have ne : x ≠ n := (nd.mem_erase_iff.mp hx).1
      omega
    by_cases c : n ∈ l
    · have := List.length_erase_of_mem c
      omega
    · rw [List.erase_of_not_mem c] at h1
      omega
theorem nodup_it {f : Nat → Nat} {s L : Nat} (inj : ∀ i j, i < L → j < L → it f s i = it f s j → i = j) : ((List.range L).map (it f s)).Nodup := by
  rw [List.nodup_iff_pairwise_ne, List.pairwise_map]
  refine List.Pairwise.imp_of_mem ?_ List.nodup_range
  intro a b ha hb ne e
  exact ne (inj a b (List.mem_range.mp ha) (List.mem_range.mp hb) e)
def fT (ts : List Nat) (s : Nat) : Nat := ts.getD s 0
structure Tb (ts : List Nat) : Prop where
  cl : ∀ x, x < ts.length → fT ts x < ts.length
  le : ts.length ≤ 256
  pos : 0 < ts.length
theorem any_dn (x : Nat) (l : List Nat) : ((l.map dn).any fun k => k.eqv (dn x)) = decide (x ∈ l) := by
  have := any_eqv (fun a : Nat => a) x l
  simpa using this
theorem ks_int {ks : List D} {i : Int} : keyOk (kindK false ks (.int i)) (.int i) = true := by
  unfold kindK
  split <;> rfl
theorem kd_int {ks : List D} {i : Int} : kindK false ks (.int i) = false := by
  unfold kindK
  split <;> rfl
theorem put_new {x : Nat} {l ws : List Nat} (h : x ∉ l) (v : D) (vs : List D) : putD (dn x) v (l.map dn) vs = ((l ++ [x]).map dn, vs ++ [v]) := by
  unfold putD
  rw [any_dn, decide_eq_false h, List.map_append]
  rfl
theorem look_at {y : Nat} : ∀ {l : List Nat} {o : Nat}, y ∈ l → lookD (l.map dn) ((List.range' o l.length).map dn) (dn y) = some (dn (o + l.idxOf y))
  | [], _, h => nomatch h
  | a :: l, o, h => by
    rw [List.map_cons, List.length_cons, List.range'_succ, List.map_cons, lookD, List.idxOf_cons]
    by_cases e : a = y
    · subst e
      have e1 : (dn a).eqv (dn a) = true := by simp [D.eqv]
      rw [e1]
      simp
    · have e1 : (dn a).eqv (dn y) = false := by
        simp [D.eqv]
        omega
      have e2 : (a == y) = false := by simpa using e
      rw [e1, e2]
      have := look_at (o := o + 1) ((List.mem_cons.mp h).resolve_left fun z => e z.symm)
      simp only [cond_false, Bool.false_eq_true, if_false]
      rw [this]
      congr 2
      omega
theorem it_snoc {f : Nat → Nat} {s L : Nat} : (List.range (L + 1)).map (it f s) = (List.range L).map (it f s) ++ [it f s L] := by
  rw [List.range_succ, List.map_append]
  rfl
theorem lead_by_ok {k s : Nat} {ts : List Nat} (h : Tb ts) (hs : s < ts.length) : ∃ x : Nat × Nat, Ld (fT ts) s x.1 x.2 ∧ callN pgP (k + 1) ix_lead_by [.lst (ts.map dn), .int (s : Nat)] = .ok (.tup [dn x.1, .lst ((rd (fT ts) s x.1 x.2).map dn)]) false .non := by
  refine Cl_ex (io := fun _ => .non) (go_lead_by ?_)
  have hle := h.le
  leaf_len
  refine S_whl (fun n ρ => ∃ L, n = ts.length - L ∧ L ≤ ts.length ∧ (∀ i j, i < L → j < L → it (fT ts) s i = it (fT ts) s j → i = j) ∧ ρ = [.val (.lst (ts.map dn)), .val (.int (s : Nat)), .own 0 (.dic false (((List.range L).map (it (fT ts) s)).map dn) ((List.range L).map dn)), .val (dn (it (fT ts) s L)), .own 0 (.lst (((List.range L).map (it (fT ts) s)).map dn))]) ts.length ?_ ?_ ?_
  · exact ⟨0, by omega, by omega, fun i j hi => absurd hi (Nat.not_lt_zero i), rfl⟩
  · exact Nat.lt_of_le_of_lt hle (show 256 < pgP.fuel by decide)
  · rintro n ρ ⟨L, rfl, hL, inj, rfl⟩
    leaf_len
    refine cm_ninD ks_int ?_
    rw [any_dn]
    leaf_len
    have hlt := it_lt h.cl hs L
    refine iff3 (fun hn => ?_) (fun hn => ?_)
    · have hn' : it (fT ts) s L ∉ (List.range L).map (it (fT ts) s) := by simpa using hn
      have inj' : ∀ i j, i < L + 1 → j < L + 1 → it (fT ts) s i = it (fT ts) s j → i = j := by
        intro i j hi hj e
        by_cases c1 : i = L
        · by_cases c2 : j = L
          · omega
          · subst c1
            exact absurd (List.mem_map.mpr ⟨j, List.mem_range.mpr (by omega), e.symm⟩) hn'
        · by_cases c2 : j = L
          · subst c2
            exact absurd (List.mem_map.mpr ⟨i, List.mem_range.mpr (by omega), e⟩) hn'
          · exact inj i j (by omega) (by omega) e
      have hL' : L + 1 ≤ ts.length := by
        have := php (nodup_it inj') (n := ts.length) fun x hx => by
          obtain ⟨i, _, rfl⟩ := List.mem_map.mp hx
          exact it_lt h.cl hs i
        simpa using this
      leaf_len
      refine ⟨rfl, ?_⟩
      leaf_len
      refine six_dic rfl ks_int (line_lt (by simp; omega)) ?_
      rw [kd_int, put_new (ws := []) hn']
      leaf_len
      · exact line_lt (by simp; omega)
      refine ⟨ts.length - (L + 1), by omega, L + 1, rfl, hL', inj', ?_⟩
      rw [it_snoc]
      simp [List.range_succ]
      rfl
    · have hn' : it (fT ts) s L ∈ (List.range L).map (it (fT ts) s) := by simpa using hn
      have hg := idx_get hn'
      generalize et : ((List.range L).map (it (fT ts) s)).idxOf (it (fT ts) s L) = t at hg
      have htL : t < L := by
        have := (List.getElem?_eq_some_iff.mp hg).1
        simpa using this
      have ht : it (fT ts) s t = it (fT ts) s L := by
        rw [List.getElem?_map, List.getElem?_range htL] at hg
        exact Option.some.inj hg
      have lk : lookD (((List.range L).map (it (fT ts) s)).map dn) ((List.range L).map dn) (dn (it (fT ts) s L)) = some (dn t) := by
        have := look_at (o := 0) hn'
        rw [List.length_map, List.length_range, ← List.range_eq_range', et, Nat.zero_add] at this
        exact this
      leaf_len
      refine ix_dic rfl lk ?_
      leaf_len
      refine ix_dic rfl lk ?_
      leaf_len
      refine Slx_of rfl ?_
      leaf_len
      refine ⟨(t, L - t), ⟨by omega, fun i j hi hj => inj i j (by omega) (by omega), ?_⟩, ?_, rfl, rfl⟩
      · rw [show t + (L - t) = L by omega]
        exact ht.symm
      · rw [cut_from _ _ (by omega), ← List.map_drop, ← List.map_drop]
        congr 4
        refine List.ext_getElem (by simp [rd]) fun i h1 h2 => ?_
        simp [rd]
theorem lead_all {ts : List Nat} (h : Tb ts) : ∃ tp : Nat → Nat × Nat, ∀ s, s < ts.length → Ld (fT ts) s (tp s).1 (tp s).2 ∧ ∀ k, callN pgP (k + 1) ix_lead_by [.lst (ts.map dn), .int (s : Nat)] = .ok (.tup [dn (tp s).1, .lst ((rd (fT ts) s (tp s).1 (tp s).2).map dn)]) false .non := by
  refine Classical.axiomOfChoice (r := fun s x => s < ts.length → Ld (fT ts) s (Prod.fst x) x.2 ∧ ∀ k, callN pgP (k + 1) ix_lead_by [.lst (ts.map dn), .int (s : Nat)] = .ok (.tup [dn x.1, .lst ((rd (fT ts) s x.1 x.2).map dn)]) false .non) fun s => ?_
  by_cases hs : s < ts.length
  · obtain ⟨x, hx, _⟩ := lead_by_ok (k := 0) h hs
    refine ⟨x, fun _ => ⟨hx, fun k => ?_⟩⟩
    obtain ⟨y, hy, e⟩ := lead_by_ok (k := k) h hs
    obtain ⟨e1, e2⟩ := hx.uniq hy
    rw [e1, e2]
    exact e
  · exact ⟨(0, 0), fun z => absurd z hs⟩
theorem find_at {m : Nat} : ∀ {c : List Nat}, m ∈ c → findD (dn m) (c.map dn) = some (c.idxOf m)
  | [], h => nomatch h
  | a :: c, h => by
    rw [List.map_cons, findD, List.idxOf_cons]
    by_cases e : a = m
    · subst e
      have e1 : (dn a).eqv (dn a) = true := by simp [D.eqv]
      rw [e1]
      simp
    · have e1 : (dn a).eqv (dn m) = false := by
        simp [D.eqv]
        omega
      have e2 : (a == m) = false := by simpa using e
      rw [e1, e2, find_at ((List.mem_cons.mp h).resolve_left fun z => e z.symm)]
      simp
theorem cut_to {α : Type} (xs : List α) (k : Nat) (h : k < 2 ^ 62) : cutL xs none (some ((k : Nat) : Int)) = xs.take k := by
  have e : clip xs.length xs.length (some ((k : Nat) : Int)) = min k xs.length := by
    show (if ((k : Nat) : Int) < 0 then max (((k : Nat) : Int) + (xs.length : Int)) 0 else min ((k : Nat) : Int) (xs.length : Int)).toNat = _
    rw [if_neg (by omega)]
    omega
  unfold cutL
  rw [e]
  show (xs.drop 0).take (min k xs.length - 0) = _
  rw [List.drop_zero, Nat.sub_zero]
  by_cases c : k ≤ xs.length
  · rw [Nat.min_eq_left c]
  · rw [Nat.min_eq_right (by omega), List.take_of_length_le (Nat.le_refl _), List.take_of_length_le (by omega)]
theorem turned_ok {k : Nat} {c : List Nat} (hne : c ≠ []) (hl : c.length ≤ 1000) : callN pgP (k + 1) ix_turned [.lst (c.map dn)] = .ok (.tup ((trn c).map dn)) false .non := by
  refine Cl_is (go_turned ?_)
  obtain ⟨m, hm⟩ : ∃ m, c.min? = some m := by
    cases e : c.min? with
    | none => exact absurd (List.min?_eq_none_iff.mp e) hne
    | some m => exact ⟨m, rfl⟩
  have hmm := List.min?_mem hm
  have hlt : c.idxOf m < c.length := (List.getElem?_eq_some_iff.mp (idx_get hmm)).1
  leaf_len
  rw [show c.map (fun a => a) = c by simp, hm, Option.getD_some]
  refine bq_index rfl ?_ (find_at hmm) ?_
  · have := fit_ints (fun a : Nat => a) c
    exact this
  leaf_len
  refine Slx_of rfl ?_
  leaf_len
  refine Slx_of rfl ?_
  leaf_len
  rw [cut_from _ _ (by omega), cut_to _ _ (by omega)]
  refine ⟨line_le (by simp; omega), ?_⟩
  leaf_len
  refine ⟨?_, rfl, rfl⟩
  unfold trn
  rw [hm]
  simp
/-- each once -/
def dd {α : Type} [DecidableEq α] (l : List α) : List α := l.foldl (fun acc x => if x ∈ acc then acc else acc ++ [x]) []
def ddF {α : Type} [DecidableEq α] (acc l : List α) : List α := l.foldl (fun acc x => if x ∈ acc then acc else acc ++ [x]) acc
theorem ddF_cons {α : Type} [DecidableEq α] (acc : List α) (x : α) (l : List α) : ddF acc (x :: l) = ddF (if x ∈ acc then acc else acc ++ [x]) l := rfl
theorem mem_ddF {α : Type} [DecidableEq α] {y : α} : ∀ {l acc : List α}, y ∈ ddF acc l ↔ y ∈ acc ∨ y ∈ l
  | [], acc => by simp [ddF]
  | x :: l, acc => by
    rw [ddF_cons, mem_ddF]
    split
    · rename_i h
      constructor
      · rintro (h1 | h1)
        · exact .inl h1
        · exact .inr (List.mem_cons_of_mem _ h1)
      · rintro (h1 | h1)
        · exact .inl h1
        · rcases List.mem_cons.mp h1 with rfl | h1
          · exact .inl h
          · exact .inr h1
    · simp [or_assoc]
theorem nodup_ddF {α : Type} [DecidableEq α] : ∀ {l acc : List α}, acc.Nodup → (ddF acc l).Nodup
  | [], acc, h => h
  | x :: l, acc, h => by
    rw [ddF_cons]
    refine nodup_ddF ?_
    split
    · exact h
    · rename_i hx
      rw [List.nodup_append]
      refine ⟨h, by simp, fun a ha b hb => ?_⟩
      simp at hb
      subst hb
      exact fun z => hx (z ▸ ha)
theorem len_ddF {α : Type} [DecidableEq α] : ∀ {l acc : List α}, (ddF acc l).length ≤ acc.length + l.length
  | [], acc => by simp [ddF]
  | x :: l, acc => by
    rw [ddF_cons]
    have h := @len_ddF _ _ l (if x ∈ acc then acc else acc ++ [x])
    rw [List.length_cons]
    split at h
    · rename_i c
      rw [if_pos c]
      omega
    · rename_i c
      rw [if_neg c]
      rw [List.length_append, List.length_singleton] at h
      omega
theorem ddF_all {α : Type} [DecidableEq α] : ∀ {l acc : List α}, (acc ++ l).Nodup → ddF acc l = acc ++ l
  | [], acc, _ => by simp [ddF]
  | x :: l, acc, h => by
    have h' : (acc ++ [x] ++ l).Nodup := by simpa using h
    have hx : x ∉ acc := fun z => by
      rw [List.nodup_append] at h
      exact h.2.2 x z x List.mem_cons_self rfl
    rw [ddF_cons, if_neg hx, ddF_all h']
    simp
theorem putK_ddF {α : Type} [DecidableEq α] {g : α → D} (hg : ∀ a b, (g a).eqv (g b) = decide (a = b)) : ∀ (l acc : List α), (l.map g).foldl putK (acc.map g) = (ddF acc l).map g
  | [], acc => rfl
  | x :: l, acc => by
    have hm : ((acc.map g).any fun k => k.eqv (g x)) = decide (x ∈ acc) := by
      rw [List.any_map]
      induction acc with
      | nil => simp
      | cons a acc ih =>
        rw [List.any_cons, ih]
        simp only [Function.comp, hg, List.mem_cons]
        by_cases e : a = x
        · subst e
          simp
        · have e' : ¬ x = a := fun z => e z.symm
          simp [e, e']
    rw [List.map_cons, List.foldl_cons, ddF_cons]
    have : putK (acc.map g) (g x) = (if x ∈ acc then acc else acc ++ [x]).map g := by
      unfold putK
      rw [hm]
      by_cases c : x ∈ acc
      · simp [c]
      · simp [c]
    rw [this]
    exact putK_ddF hg l _
abbrev iT (c : List Int) : D := .tup (c.map .int)
def cI (c : List Nat) : List Int := c.map fun (x : Nat) => ((x : Nat) : Int)
theorem iT_cI (c : List Nat) : D.tup (c.map dn) = iT (cI c) := by
  unfold iT cI
  rw [List.map_map]
  rfl
theorem eqv_ints : ∀ a b : List Int, D.eqvs (a.map .int) (b.map .int) = decide (a = b)
  | [], [] => by simp [D.eqvs]
  | [], _ :: _ => by simp [D.eqvs]
  | _ :: _, [] => by simp [D.eqvs]
  | x :: a, y :: b => by
    simp only [List.map_cons, D.eqvs, eqv_ints a b, D.eqv]
    by_cases e : x = y <;> by_cases e2 : a = b <;> simp [e, e2]
theorem iT_eqv (a b : List Int) : (iT a).eqv (iT b) = decide (a = b) := by
  show D.eqvs _ _ = _
  exact eqv_ints a b
theorem int_eqvI (a b : Int) : (D.int a).eqv (D.int b) = decide (a = b) := by
  by_cases e : a = b <;> simp [D.eqv, e]
theorem nat_back : ∀ r : List Nat, (cI r).map Int.toNat = r
  | [] => rfl
  | x :: r => by
    show Int.toNat ((x : Nat) : Int) :: (cI r).map Int.toNat = _
    rw [nat_back r]
    rfl
theorem tups_of : ∀ {l : List (List Int)}, (∀ c ∈ l, c ≠ []) → tupsI? (l.map iT) = some l
  | [], _ => rfl
  | c :: l, h => by
    rw [List.map_cons, tupsI?, ints_mapI]
    cases c with
    | nil => exact absurd rfl (h [] List.mem_cons_self)
    | cons x c => simp only [tups_of fun d hd => h d (List.mem_cons_of_mem _ hd), Option.map_some]
theorem insT_permQ (x : List Int) : ∀ l : List (List Int), (insT x l).Perm (x :: l)
  | [] => .refl _
  | y :: ys => by
    unfold insT
    split
    · exact ((insT_permQ x ys).cons y).trans (.swap x y ys)
    · exact .refl _
theorem srtT_permQ : ∀ l : List (List Int), (srtT l).Perm l
  | [] => .refl _
  | x :: xs => (insT_permQ x _).trans ((srtT_permQ xs).cons x)
theorem cI_inj {a b : List Nat} (h : cI a = cI b) : a = b := by
  rw [← nat_back a, h, nat_back b]
/-- the rounds that there are -/
structure Rds (ts : List Nat) (rs : List (List Nat)) : Prop where
  is : ∀ r ∈ rs, ∃ m p, m < ts.length ∧ p ≤ ts.length ∧ r = rd (fT ts) m 0 p ∧ Ld (fT ts) m 0 p ∧ ∀ k, k < p → m ≤ it (fT ts) m k
  all : ∀ s t p, s < ts.length → Ld (fT ts) s t p → trn (rd (fT ts) s t p) ∈ rs
  nd : rs.Nodup
  le : rs.length ≤ ts.length
theorem Ld.le {ts : List Nat} {s t p : Nat} (h : Tb ts) (hs : s < ts.length) (l : Ld (fT ts) s t p) : t + p ≤ ts.length := by
  have := php (nodup_it l.inj) (n := ts.length) fun x hx => by
    obtain ⟨i, _, rfl⟩ := List.mem_map.mp hx
    exact it_lt h.cl hs i
  simpa using this
theorem rounds_ex {ts : List Nat} (h : Tb ts) : ∃ rs : List (List Nat), Rds ts rs ∧ ∀ k, callN pgP (k + 2) ix_rounds_of [.lst (ts.map dn)] = .ok (.lst (rs.map fun r => .tup (r.map dn))) true .non := by
  obtain ⟨tp, hp⟩ := lead_all h
  have hle := h.le
  have hkey : ∀ s, s < ts.length → trn (rd (fT ts) s (tp s).1 (tp s).2) ≠ [] := fun s hs z => by
    obtain ⟨i, _, e, _⟩ := (hp s hs).1.turn
    have := (hp s hs).1.pos
    rw [e] at z
    have := congrArg List.length z
    rw [rd_len] at this
    simp at this
    omega
  let ks : List (List Int) := (List.range ts.length).map fun s => cI (trn (rd (fT ts) s (tp s).1 (tp s).2))
  have hks : ∀ c ∈ ddF [] ks, c ≠ [] ∧ ∃ s, s < ts.length ∧ c = cI (trn (rd (fT ts) s (tp s).1 (tp s).2)) := fun c hc => by
    have hc' := (mem_ddF.mp hc).resolve_left (by simp)
    obtain ⟨s, hs, rfl⟩ := List.mem_map.mp hc'
    have hs' := List.mem_range.mp hs
    refine ⟨fun z => hkey s hs' ?_, s, hs', rfl⟩
    exact List.map_eq_nil_iff.mp z
  have pm := srtT_permQ (ddF [] ks)
  refine ⟨(srtT (ddF [] ks)).map fun c => c.map Int.toNat, ?_, fun k => Cl_is (go_rounds_of ?_)⟩
  · have pm2 := pm.map fun c => c.map Int.toNat
    have back := nat_back
    have hmem : ∀ r, r ∈ (srtT (ddF [] ks)).map (fun c => c.map Int.toNat) ↔ ∃ s, s < ts.length ∧ r = trn (rd (fT ts) s (tp s).1 (tp s).2) := fun r => by
      rw [pm2.mem_iff, List.mem_map]
      constructor
      · rintro ⟨c, hc, rfl⟩
        obtain ⟨_, s, hs, rfl⟩ := hks c hc
        exact ⟨s, hs, back _⟩
      · rintro ⟨s, hs, rfl⟩
        exact ⟨_, mem_ddF.mpr (.inr (List.mem_map.mpr ⟨s, List.mem_range.mpr hs, rfl⟩)), back _⟩
    refine ⟨fun r hr => ?_, fun s t p hs l => ?_, ?_, ?_⟩
    · obtain ⟨s, hs, rfl⟩ := (hmem r).mp hr
      obtain ⟨i, hi, e, hm⟩ := (hp s hs).1.turn
      have := (hp s hs).1.le h hs
      exact ⟨_, _, it_lt h.cl hs _, by omega, e, (hp s hs).1.at hi, hm⟩
    · refine (hmem _).mpr ⟨s, hs, ?_⟩
      obtain ⟨e1, e2⟩ := l.uniq (hp s hs).1
      rw [e1, e2]
    · refine (pm2.nodup_iff).mpr ?_
      rw [List.nodup_iff_pairwise_ne, List.pairwise_map]
      refine List.Pairwise.imp_of_mem ?_ (nodup_ddF (l := ks) (acc := []) (by simp))
      intro a b ha hb ne e
      obtain ⟨_, s, _, rfl⟩ := hks a ha
      obtain ⟨_, s', _, rfl⟩ := hks b hb
      rw [back, back] at e
      exact ne (by rw [e])
    · rw [List.length_map, pm.length_eq]
      have := @len_ddF _ _ ks []
      simpa [ks] using this
  · leaf_len
    · simp
      omega
    refine DComp_map (as := List.range ts.length) (fi := dn) (ko := fun s => iT (cI (trn (rd (fT ts) s (tp s).1 (tp s).2)))) (v := .bl true) true (by simp) rfl (line_lt (by simp; omega)) ?_ ?_ ?_
    · intro s _
      refine ⟨rfl, ?_⟩
      show List.all _ keyA = true
      rw [List.all_map]
      exact List.all_eq_true.mpr fun _ _ => rfl
    · leaf_len
      intro s hs
      have hs := List.mem_range.mp hs
      leaf_len
      refine Cl_ok ((hp s hs).2 _) ?_
      leaf_len
      have hl := (hp s hs).1.le h hs
      have hpos := (hp s hs).1.pos
      refine Cl_ok (turned_ok (fun z => ?_) (by rw [rd_len]; omega)) ?_
      · have := congrArg List.length z
        rw [rd_len] at this
        simp at this
        omega
      leaf_len
      refine ⟨rfl, ?_⟩
      rw [← iT_cI]
    · leaf_len
      intro t' ws ht
      have e : ((List.range ts.length).map fun s => iT (cI (trn (rd (fT ts) s (tp s).1 (tp s).2)))).foldl putK [] = (ddF [] ks).map iT := by
        have := putK_ddF (g := iT) iT_eqv ks []
        rw [← this]
        simp only [ks, List.map_map]
        rfl
      rw [e]
      have ht' : t' = true := ht fun z => by
        have e1 := congrArg List.length z
        have e2 := h.pos
        rw [List.length_range, List.length_nil] at e1
        omega
      subst ht'
      leaf_len
      refine bq_sortT (tups_of fun c hc => (hks c hc).1) ?_
      leaf_len
      refine ⟨?_, rfl, rfl⟩
      congr 1
      rw [List.map_map]
      refine List.map_congr_left fun c hc => ?_
      obtain ⟨_, s, _, rfl⟩ := hks c (pm.mem_iff.mp hc)
      show iT _ = _
      rw [Function.comp, nat_back, iT_cI]
def inR (N : Nat) (is : List Int) : Bool := is.all fun i => decide (0 ≤ i) && decide (i < (N : Nat))
theorem inR_of {N : Nat} {is : List Int} (h : inR N is = true) : ∃ ks : List Nat, is = cI ks ∧ ∀ x ∈ ks, x < N := by
  unfold inR at h
  rw [List.all_eq_true] at h
  refine ⟨is.map Int.toNat, ?_, fun x hx => ?_⟩
  · unfold cI
    rw [List.map_map]
    conv => lhs; rw [← List.map_id is]
    refine List.map_congr_left fun i hi => ?_
    have := h i hi
    simp at this ⊢
    omega
  · obtain ⟨i, hi, rfl⟩ := List.mem_map.mp hx
    have := h i hi
    simp at this
    omega
theorem dd_ints (is : List Int) : (is.map D.int).foldl putK [] = (ddF [] is).map D.int := putK_ddF (g := D.int) int_eqvI is []
theorem cI_len (ks : List Nat) : (cI ks).length = ks.length := by simp [cI]
theorem cI_get (ks : List Nat) (i : Nat) : (cI ks).getD i 0 = ((ks.getD i 0 : Nat) : Int) := by
  unfold cI
  rw [List.getD_eq_getElem?_getD, List.getElem?_map, List.getD_eq_getElem?_getD]
  cases ks[i]? <;> rfl
theorem cI_dn (ks : List Nat) : (cI ks).map D.int = ks.map dn := by
  unfold cI
  rw [List.map_map]
  rfl
theorem zip_all {α : Type} (z : α) (g : α → Nat → Bool) (l : List α) : (l.zipIdx.all fun p => g p.1 p.2) = (List.range l.length).all fun i => g (l.getD i z) i := by
  have e : (l.zipIdx.map fun p => g p.1 p.2) = (List.range l.length).map fun i => g (l.getD i z) i := by
    refine List.ext_getElem (by simp) fun i h1 h2 => ?_
    simp at h1 h2 ⊢
    rw [List.getElem?_eq_getElem h2]
    rfl
  have key : ∀ {β : Type} (f : β → Bool) (l : List β), l.all f = (l.map f).all id := fun f l => by
    rw [List.all_map]
    rfl
  rw [key, e, ← key]
theorem zip_ltI {α : Type} {l : List α} {p : α × Nat} (h : p ∈ l.zipIdx) : p.2 < l.length := by
  obtain ⟨r, i⟩ := p
  have := List.mem_zipIdx h
  simp at this ⊢
  omega
theorem plains_I : ∀ l : List Int, D.plains (l.map D.int) = true ∧ D.deps (l.map D.int) = 0
  | [] => ⟨rfl, rfl⟩
  | a :: l => by
    obtain ⟨h1, h2⟩ := plains_I l
    rw [List.map_cons, D.plains, D.deps, h1, h2]
    exact ⟨rfl, rfl⟩
theorem fit_I (l : List Int) : fit (.lst (l.map D.int)) = true := by
  obtain ⟨h1, h2⟩ := plains_I l
  simp [fit, D.plain, D.dep, h1, h2]
theorem any_I (x : Int) : ∀ l : List Int, ((l.map D.int).any fun y => y.eqv (.int x)) = decide (x ∈ l)
  | [] => rfl
  | a :: l => by
    rw [List.map_cons, List.any_cons, any_I x l, int_eqvI]
    by_cases e : a = x
    · subst e
      simp
    · have e' : ¬ x = a := fun z => e z.symm
      simp [e, e']
theorem cm_inI {x : Int} {l : List Int} {sq : D} {K : Bool → Prop} (hs : sq = .lst (l.map .int) ∨ sq = .tup (l.map .int)) (h : K (decide (x ∈ l))) : Cm2 .In (some (.int x)) (some sq) K := by
  rw [← any_I] at h
  rcases hs with rfl | rfl
  · exact cm_inL rfl (fit_I l) h
  · exact cm_inT rfl (fit_I l) h
theorem get_I {l : List Int} {k : Nat} (h : k < l.length) : (l.map D.int)[k]? = some (.int (l.getD k 0)) := by
  rw [List.getElem?_map, List.getD_eq_getElem?_getD, List.getElem?_eq_getElem h]
  rfl
theorem ix_tupI {K : D → Prop} {l : List Int} {n : Nat} (e : n < l.length) (h : K (.int (l.getD n 0))) : Ixx (some (.tup (l.map D.int))) (some (.int (n : Int))) K := ix_tup (get_I e) h
abbrev PD (w : Str) (cs : List (List Int)) : D := .tup (.str w :: cs.map iT)
def tb (n : Nat) (rs : List Nat) : List Nat := (List.range (2 ^ n)).map fun s => F rs s
theorem tb_len {n : Nat} {rs : List Nat} : (tb n rs).length = 2 ^ n := by simp [tb]
theorem table_by_tb {k n : Nat} {rs : List Nat} (hn : n ≤ 8) (hl : rs.length ≤ 8) : callN pgP (k + 2) ix_table_by [netD n rs] = .ok (.lst ((tb n rs).map dn)) true .non := table_by_ok hn hl
local macro_rules | `(tactic| nest_cls) => `(tactic| with_reducible refine Cl_ok (table_by_tb (by omega) (by omega)) ?_)
theorem tb_Tb {n : Nat} {rs : List Nat} (h : NetK n rs) : Tb (tb n rs) := by
  refine ⟨fun x hx => ?_, ?_, ?_⟩
  · rw [tb_len] at hx ⊢
    unfold fT tb
    rw [List.getD_eq_getElem?_getD, List.getElem?_map, List.getElem?_range hx]
    exact F_lt h.len
  · rw [tb_len]
    exact two_le h.le8
  · rw [tb_len]
    exact Nat.two_pow_pos n
theorem zip_range (l : List Nat) : l.zipIdx = (List.range l.length).map fun i => (l.getD i 0, i) := by
  refine List.ext_getElem (by simp) fun i h1 h2 => ?_
  simp at h1 h2 ⊢
  rw [List.getElem?_eq_getElem h2]
  rfl
def fxd (ts : List Nat) : List Nat := (List.range ts.length).filter fun s => decide (ts.getD s 0 = s)
theorem zip_fxd (ts : List Nat) : ((ts.zipIdx.filter fun p => decide (p.2 = p.1)).map fun p => dn p.2) = (cI (fxd ts)).map D.int := by
  rw [cI_dn, zip_range, List.filter_map, List.map_map, fxd]
  congr 1
  refine List.filter_congr fun s _ => ?_
  simp only [Function.comp]
  exact decide_eq_decide.mpr ⟨fun h => h.symm, fun h => h.symm⟩
section
variable {n : Nat} {rs : List Nat} {R : List (List Nat)} {T : List Nat}
abbrev RndsOf (n : Nat) (rs : List Nat) (R : List (List Nat)) : Prop := ∀ k, callN pgP (k + 2) ix_rounds_of [.lst ((tb n rs).map dn)] = .ok (.lst (R.map fun r => .tup (r.map dn))) true .non
theorem settles_ok {k : Nat} (hK : NetK n rs) (hR : Rds (tb n rs) R) (hr : RndsOf n rs R) : callN pgP (k + 3) ix_settles [netD n rs] = .ok (.bl (R.all fun r => decide (r.length = 1))) false .non := by
  refine Cl_is (go_settles ?_)
  have hT := tb_Tb hK
  have hle := hT.le
  have h8 := hK.le8
  have hl8 := hK.l
  have := hR.le
  leaf_len
  refine Cl_ok (hr _) ?_
  leaf_len
  apply Comp_map (as := R) (fi := fun r => .tup (r.map dn)) (fo := fun r => .bl (decide (r.length = 1))) rfl rfl (line_le (by omega))
  · leaf_len
    intro r hr
    leaf_len
    exact ⟨rfl, by simp⟩
  · leaf_len
    exact ⟨rfl, rfl, rfl⟩
theorem has_one_end_ok {k : Nat} (hK : NetK n rs) (hr : RndsOf n rs R) : callN pgP (k + 3) ix_has_one_end [netD n rs] = .ok (.bl (decide (R.length = 1))) false .non := by
  refine Cl_is (go_has_one_end ?_)
  have hT := tb_Tb hK
  have hle := hT.le
  have h8 := hK.le8
  have hl8 := hK.l
  leaf_len
  refine Cl_ok (hr _) ?_
  leaf_len
  exact ⟨by simp, rfl, rfl⟩
end
theorem Ld.far {f : Nat → Nat} {s t p : Nat} (h : Ld f s t p) (k : Nat) (hk : t ≤ k) : it f s k = it f s (t + (k - t) % p) := by
  have hp := h.pos
  induction k using Nat.strongRecOn with
  | _ k ih =>
    by_cases c : k - t < p
    · rw [Nat.mod_eq_of_lt c]
      congr 1
      omega
    · have e1 := ih (k - p) (by omega) (by omega)
      have e2 := h.per (k - t - p)
      rw [show t + p + (k - t - p) = k by omega, show t + (k - t - p) = k - p by omega] at e2
      rw [e2, e1]
      congr 2
      rw [show k - t = k - p - t + p by omega, Nat.add_mod_right]
theorem Ld.eq_iff {f : Nat → Nat} {s t p i j : Nat} (h : Ld f s t p) (hij : i < j) : it f s i = it f s j ↔ t ≤ i ∧ (j - i) % p = 0 := by
  have hp := h.pos
  constructor
  · intro e
    have hj : t + p ≤ j := by
      rcases Nat.lt_or_ge j (t + p) with c | c
      · have := h.inj i j (by omega) c e
        omega
      · exact c
    have mj := Nat.mod_lt (j - t) hp
    rw [h.far j (by omega)] at e
    have hi : t ≤ i := by
      rcases Nat.lt_or_ge i t with c | c
      · have := h.inj _ _ (by omega) (by omega) e
        omega
      · exact c
    refine ⟨hi, ?_⟩
    have mi := Nat.mod_lt (i - t) hp
    rw [h.far i hi] at e
    have := h.inj _ _ (by omega) (by omega) e
    have e3 : (i - t) % p = (j - t) % p := by omega
    have : (j - t - (i - t)) % p = 0 := Nat.sub_mod_eq_zero_of_mod_eq e3.symm
    rwa [show j - t - (i - t) = j - i by omega] at this
  · rintro ⟨h1, h2⟩
    rw [h.far i h1, h.far j (by omega)]
    congr 2
    rw [show j - t = i - t + (j - i) by omega, Nat.add_mod, h2, Nat.add_zero, Nat.mod_mod]
/-- steps far on are steps near by -/
theorem Ld.near {f : Nat → Nat} {s t p a b : Nat} (h : Ld f s t p) (ha : t ≤ a) (hb : t ≤ b) (e : a % p = b % p) : it f s a = it f s b := by
  have one : ∀ {a b : Nat}, t ≤ a → a ≤ b → a % p = b % p → it f s a = it f s b := fun {a b} ha hab e => by
    rcases Nat.lt_or_ge a b with c | c
    · exact (h.eq_iff c).mpr ⟨ha, Nat.sub_mod_eq_zero_of_mod_eq e.symm⟩
    · rw [show a = b by omega]
  rcases Nat.le_total a b with c | c
  · exact one ha c e
  · exact (one hb c e.symm).symm
theorem dvd_lcm {a b m : Nat} (hb : 0 < b) : b ∣ a * m ↔ b / Nat.gcd a b ∣ m := by
  have hg : 0 < Nat.gcd a b := Nat.gcd_pos_of_pos_right _ hb
  obtain ⟨x, hx⟩ := Nat.gcd_dvd_left a b
  obtain ⟨y, hy⟩ := Nat.gcd_dvd_right a b
  have hco : Nat.Coprime (a / Nat.gcd a b) (b / Nat.gcd a b) := Nat.coprime_div_gcd_div_gcd hg
  generalize Nat.gcd a b = g at *
  subst hx hy
  rw [Nat.mul_div_cancel_left _ hg, Nat.mul_div_cancel_left _ hg] at hco
  rw [Nat.mul_div_cancel_left _ hg, Nat.mul_assoc, Nat.mul_dvd_mul_iff_left hg]
  exact ⟨fun h => hco.symm.dvd_of_dvd_mul_left h, fun h => Nat.dvd_trans h (Nat.dvd_mul_left _ _)⟩
/-- the first one in a filtered row -/
theorem head_filter {q : Nat → Bool} : ∀ {n o m : Nat}, o ≤ m → m < o + n → q m = true → (∀ j, o ≤ j → j < m → q j = false) → ((List.range' o n).filter q).head? = some m
  | 0, o, m, h1, h2, _, _ => by omega
  | n + 1, o, m, h1, h2, h3, h4 => by
    rw [List.range'_succ, List.filter_cons]
    by_cases c : o = m
    · subst c
      rw [if_pos h3]
      rfl
    · rw [if_neg (by rw [h4 o (Nat.le_refl _) (by omega)]; simp)]
      exact head_filter (by omega) (by omega) h3 fun j h5 h6 => h4 j (by omega) h6
theorem mult_head {a b : Nat} (ha : 0 < a) (hb : 0 < b) : ((List.range' 1 b).filter fun m => decide (a * m % b = 0)).head? = some (b / Nat.gcd a b) := by
  have hg : 0 < Nat.gcd a b := Nat.gcd_pos_of_pos_right _ hb
  have hy : b / Nat.gcd a b * Nat.gcd a b = b := Nat.div_mul_cancel (Nat.gcd_dvd_right a b)
  have hpos : 0 < b / Nat.gcd a b := Nat.div_pos (Nat.le_of_dvd hb (Nat.gcd_dvd_right a b)) hg
  have hle : b / Nat.gcd a b ≤ b := Nat.div_le_self _ _
  refine head_filter (by omega) (by omega) ?_ ?_
  · simp only [decide_eq_true_eq]
    exact Nat.mod_eq_zero_of_dvd ((dvd_lcm hb).mpr (Nat.dvd_refl _))
  · intro j h1 h2
    simp only [decide_eq_false_iff_not]
    intro e
    have := Nat.le_of_dvd (by omega) ((dvd_lcm hb).mp (Nat.dvd_of_mod_eq_zero e))
    omega
theorem lcm_div {a b : Nat} : a / Nat.gcd a b * b = Nat.lcm a b := by
  unfold Nat.lcm
  rw [Nat.mul_comm a b, Nat.mul_div_assoc _ (Nat.gcd_dvd_left a b), Nat.mul_comm]
theorem lcm_div2 {a b : Nat} : a * (b / Nat.gcd a b) = Nat.lcm a b := by
  unfold Nat.lcm
  rw [Nat.mul_div_assoc _ (Nat.gcd_dvd_right a b)]
def lcmL (l : List Nat) : Nat := l.foldl Nat.lcm 1
theorem lcmF_dvd : ∀ {l : List Nat} {a : Nat}, a ∣ l.foldl Nat.lcm a ∧ ∀ x ∈ l, x ∣ l.foldl Nat.lcm a
  | [], a => ⟨Nat.dvd_refl _, fun _ h => nomatch h⟩
  | y :: l, a => by
    obtain ⟨h1, h2⟩ := lcmF_dvd (l := l) (a := Nat.lcm a y)
    refine ⟨Nat.dvd_trans (Nat.dvd_lcm_left a y) h1, fun x hx => ?_⟩
    rcases List.mem_cons.mp hx with rfl | hx
    · exact Nat.dvd_trans (Nat.dvd_lcm_right a x) h1
    · exact h2 x hx
theorem lcmF_le : ∀ {l : List Nat} {a : Nat}, 0 < a → (∀ x ∈ l, 0 < x) → 0 < l.foldl Nat.lcm a ∧ 2 * l.foldl Nat.lcm a ≤ 2 * a * 2 ^ l.sum
  | [], a, h, _ => ⟨h, by simp⟩
  | y :: l, a, h, g => by
    have hy := g y List.mem_cons_self
    have hle : Nat.lcm a y ≤ a * y := Nat.le_of_dvd (Nat.mul_pos h hy) (Nat.lcm_dvd (Nat.dvd_mul_right _ _) (Nat.dvd_mul_left _ _))
    obtain ⟨h1, h2⟩ := lcmF_le (l := l) (a := Nat.lcm a y) (Nat.lcm_pos h hy) fun x hx => g x (List.mem_cons_of_mem _ hx)
    refine ⟨h1, Nat.le_trans h2 ?_⟩
    rw [List.sum_cons, Nat.pow_add, ← Nat.mul_assoc]
    refine Nat.mul_le_mul_right _ ?_
    have : y < 2 ^ y := Nat.lt_two_pow_self
    calc 2 * Nat.lcm a y ≤ 2 * (a * y) := Nat.mul_le_mul_left _ hle
      _ ≤ 2 * a * 2 ^ y := by rw [Nat.mul_assoc]; exact Nat.mul_le_mul_left _ (Nat.mul_le_mul_left _ (by omega))
theorem all_in {ts : List Nat} (nd : ts.Nodup) (lt : ∀ x ∈ ts, x < ts.length) {y : Nat} (hy : y < ts.length) : y ∈ ts := by
  by_cases c : y ∈ ts
  · exact c
  · have := php (n := ts.length) (l := y :: ts) (List.nodup_cons.mpr ⟨c, nd⟩) fun x hx => by
      rcases List.mem_cons.mp hx with rfl | hx
      · exact hy
      · exact lt x hx
    simp at this
    omega
theorem nodup_dd {ts : List Nat} : (ddF [] ts).length = ts.length ↔ ts.Nodup := by
  constructor
  · have key : ∀ {l acc : List Nat}, acc.Nodup → (ddF acc l).length = acc.length + l.length → (acc ++ l).Nodup := by
      intro l
      induction l with
      | nil => intro acc h _; simpa using h
      | cons x l ih =>
        intro acc h e
        rw [ddF_cons] at e
        have hl := @len_ddF _ _ l (if x ∈ acc then acc else acc ++ [x])
        by_cases c : x ∈ acc
        · rw [if_pos c] at e hl
          rw [List.length_cons] at e
          omega
        · rw [if_neg c] at e
          have := ih (acc := acc ++ [x]) (by
            rw [List.nodup_append]
            refine ⟨h, by simp, fun a ha b hb => ?_⟩
            simp at hb
            subst hb
            exact fun z => c (z ▸ ha)) (by rw [e]; simp; omega)
          simpa using this
    intro e
    simpa using key (l := ts) (acc := []) (by simp) (by simpa using e)
  · intro h
    rw [ddF_all (by simpa using h)]
    simp
theorem Rds.sum {ts : List Nat} {rs : List (List Nat)} (h : Tb ts) (R : Rds ts rs) : (rs.map List.length).sum ≤ ts.length := by
  have := php (n := ts.length) (l := rs.flatten) ?_ ?_
  · rwa [List.length_flatten] at this
  · rw [List.nodup_iff_pairwise_ne, List.pairwise_flatten]
    refine ⟨fun l hl => ?_, ?_⟩
    · obtain ⟨m, p, hm, hp, rfl, ld, _⟩ := R.is l hl
      have := nodup_it (f := fT ts) (s := m) (L := p) fun i j hi hj => ld.inj i j (by omega) (by omega)
      rw [List.nodup_iff_pairwise_ne] at this
      simpa [rd] using this
    · refine List.Pairwise.imp_of_mem ?_ (List.nodup_iff_pairwise_ne.mp R.nd)
      intro a b ha hb ne x hx y hy e
      subst e
      obtain ⟨m, p, hm, hp, rfl, ld, hmin⟩ := R.is a ha
      obtain ⟨m', p', hm', hp', rfl, ld', hmin'⟩ := R.is b hb
      obtain ⟨i, hi, e1⟩ := mem_rd.mp hx
      obtain ⟨j, hj, e2⟩ := mem_rd.mp hy
      rw [Nat.zero_add] at e1 e2
      obtain ⟨e3, e4⟩ := ld.meet ld' hmin hmin' hi hj (e1.trans e2.symm)
      exact ne (by rw [e3, e4])
  · intro x hx
    obtain ⟨l, hl, hx⟩ := List.mem_flatten.mp hx
    obtain ⟨m, p, hm, hp, rfl, ld, _⟩ := R.is l hl
    obtain ⟨i, hi, rfl⟩ := mem_rd.mp hx
    exact it_lt h.cl hm _
theorem bq_lenM {α : Type} {as : List α} {f : α → D} {K : R → Prop} (h : K (.dat (.int ((as.length : Nat) : Int)))) : Blt .len (some [.lst (as.map f)]) K := bq_lenL (by rw [List.length_map]; exact h)
theorem bq_lenMT {α : Type} {as : List α} {f : α → D} {K : R → Prop} (h : K (.dat (.int ((as.length : Nat) : Int)))) : Blt .len (some [.tup (as.map f)]) K := bq_lenT (by rw [List.length_map]; exact h)
theorem ix_at {l : List Nat} {k : Nat} {K : D → Prop} (e : k < l.length) (h : K (dn (l.getD k 0))) : Ixx (some (.lst (l.map dn))) (some (.int ((k : Nat) : Int))) K := by
  refine ix_lmap (a := l.getD k 0) ?_ h
  rw [List.getD_eq_getElem?_getD, List.getElem?_eq_getElem e]
  rfl
theorem ix_atT {l : List Nat} {k : Nat} {K : D → Prop} (e : k < l.length) (h : K (dn (l.getD k 0))) : Ixx (some (.tup (l.map dn))) (some (.int ((k : Nat) : Int))) K := by
  refine ix_tmap (a := l.getD k 0) ?_ h
  rw [List.getD_eq_getElem?_getD, List.getElem?_eq_getElem e]
  rfl
theorem getD_map {α : Type} {f : α → Nat} {l : List α} {a : α} {k : Nat} (e : l[k]? = some a) : (l.map f).getD k 0 = f a := by
  rw [List.getD_eq_getElem?_getD, List.getElem?_map, e]
  rfl
theorem getD_rng {f : Nat → Nat} {N k : Nat} (h : k < N) : ((List.range N).map f).getD k 0 = f k := getD_map (List.getElem?_range h)
local macro_rules | `(tactic| got_up) => `(tactic| ((with_reducible show Blt _ _ _); first | refine bq_lenM ?_ | refine bq_lenMT ?_))
local macro_rules | `(tactic| got_up) => `(tactic| ((with_reducible show NatIs _ _); first | refine natIs (by omega) ?_ | refine natIs (by simp; omega) ?_))
theorem opa_fdivN {K : Int → Prop} {a b : Nat} (h0 : 0 < b) (hs : b < 2 ^ 9000) (h : K ((a / b : Nat) : Int)) : OpA .FloorDiv (some (.int (a : Int))) (some (.int (b : Int))) K := by
  obtain ⟨x, y, z, e1, e2, e3, e4⟩ := op_fdivN (a := a) (K := fun r => r = .dat (.int ((a / b : Nat) : Int))) h0 hs rfl
  cases e1
  cases e2
  subst e4
  obtain ⟨w, g1, g2⟩ := Option.map_eq_some_iff.mp (show (iop .FloorDiv (a : Int) (b : Int)).map (fun k => R.dat (.int k)) = some (.dat (.int ((a / b : Nat) : Int))) from e3)
  cases g2
  exact ⟨_, _, _, rfl, rfl, g1, h⟩
theorem ixOf_last {n : Nat} (h : 0 < n) : ixOf n (-((1 : Nat) : Int)) = some (n - 1) := by
  unfold ixOf
  rw [if_neg (by omega), if_pos (by omega)]
  congr 1
  omega
theorem ix_last {l : List D} {d : D} {K : D → Prop} (e : l.getLast? = some d) (h : K d) : Ixx (some (.lst l)) (some (.int (-((1 : Nat) : Int)))) K := by
  rw [List.getLast?_eq_getElem?] at e
  have hl : 0 < l.length := by
    have := (List.getElem?_eq_some_iff.mp e).1
    omega
  refine ⟨_, _, d, rfl, rfl, ?_, h⟩
  simp only [ixD, ixOf_last hl, Option.bind_some]
  exact e
theorem ix_lastT {l : List D} {d : D} {K : D → Prop} (e : l.getLast? = some d) (h : K d) : Ixx (some (.tup l)) (some (.int (-((1 : Nat) : Int)))) K := by
  rw [List.getLast?_eq_getElem?] at e
  have hl : 0 < l.length := by
    have := (List.getElem?_eq_some_iff.mp e).1
    omega
  refine ⟨_, _, d, rfl, rfl, ?_, h⟩
  simp only [ixD, ixOf_last hl, Option.bind_some]
  exact e
theorem ix_lastM {α : Type} {as : List α} {f : α → D} {a : α} {K : D → Prop} (e : as.getLast? = some a) (h : K (f a)) : Ixx (some (.lst (as.map f))) (some (.int (-((1 : Nat) : Int)))) K := ix_last (by rw [List.getLast?_map, e]; rfl) h
theorem last_rng {f : Nat → Nat} {m : Nat} : ((List.range (m + 1)).map f).getLast? = some (f m) := by
  rw [List.range_succ, List.map_append]
  simp
local macro_rules | `(tactic| got_up) => `(tactic| ((with_reducible show OpA _ _ _ _); refine opa_fdivN (by decide) (by decide) ?_))
theorem split_rng {N i : Nat} {pre post : List Nat} (e : List.range N = pre ++ i :: post) : i = pre.length ∧ pre = List.range i ∧ i < N := by
  have hl := split_lt e
  rw [List.length_range] at hl
  have h1 : (List.range N)[pre.length]? = some i := by rw [e, List.getElem?_append_right (Nat.le_refl _)]; simp
  rw [List.getElem?_range hl] at h1
  have hi : pre.length = i := Option.some.inj h1
  refine ⟨hi.symm, ?_, by omega⟩
  have h2 := congrArg (List.take i) e
  rw [List.take_range, Nat.min_eq_left (by omega), List.take_append_of_le_length (by omega), List.take_of_length_le (by omega)] at h2
  exact h2.symm
theorem six_lst {i m n : Nat} {l : List D} {d : D} {ρ : Rho} {K : Rho → Prop} (e : ρ[i]? = some (.own m (.lst l))) (hm : m ≤ 1) (hn : n < l.length) (h : setK i (.own m (.lst (l.set n d))) ρ K) : Six i d (some (.int ((n : Nat) : Int))) ρ K := ⟨_, rfl, .inl ⟨m, l, n, _, e, rfl, hm, ixOf_nat hn, h⟩⟩
theorem six_lstM {α : Type} {i m n : Nat} {l : List α} {f : α → D} {d : α} {ρ : Rho} {K : Rho → Prop} (e : ρ[i]? = some (.own m (.lst (l.map f)))) (hm : m ≤ 1) (hn : n < l.length) (h : setK i (.own m (.lst ((l.set n d).map f))) ρ K) : Six i (f d) (some (.int ((n : Nat) : Int))) ρ K := six_lst e hm (by rw [List.length_map]; exact hn) (by rw [← List.map_set]; exact h)
theorem zero_row (N : Nat) : (List.replicate N [D.int ((0 : Nat) : Int)]).flatten = (List.replicate N 0).map dn := by
  induction N with
  | zero => rfl
  | succ N ih => rw [List.replicate_succ, List.flatten_cons, ih, List.replicate_succ]; rfl
local macro_rules | `(tactic| got_up) => `(tactic| ((with_reducible show ownAny _ _ = some () ∧ _); refine ⟨by with_unfolding_all exact rfl, ?_⟩))
local macro_rules | `(tactic| got_up) => `(tactic| ((with_reducible show Op2 .Mult _ _ _); refine op_lmul (by omega) (line_le (by simp; omega)) ?_))
theorem nodup_getD {l : List Nat} (nd : l.Nodup) {i j : Nat} (hi : i < l.length) (hj : j < l.length) (e : l.getD i 0 = l.getD j 0) : i = j := by
  refine (List.getElem?_inj hi nd).mp ?_
  rw [List.getD_eq_getElem?_getD, List.getD_eq_getElem?_getD, List.getElem?_eq_getElem hi, List.getElem?_eq_getElem hj] at e
  rw [List.getElem?_eq_getElem hi, List.getElem?_eq_getElem hj]
  exact congrArg some e
theorem take_snoc {l : List Nat} {i : Nat} (h : i < l.length) : l.take (i + 1) = l.take i ++ [l.getD i 0] := by
  rw [List.take_succ, List.getD_eq_getElem?_getD, List.getElem?_eq_getElem h]
  rfl
theorem mem_takeD {l : List Nat} {i x : Nat} (h : x ∈ l.take i) : ∃ j, j < i ∧ j < l.length ∧ l.getD j 0 = x := by
  obtain ⟨j, hj, e⟩ := List.mem_take_iff_getElem.mp h
  refine ⟨j, by omega, by omega, ?_⟩
  rw [List.getD_eq_getElem?_getD, List.getElem?_eq_getElem (by omega), e]
  rfl
theorem idx_at {α : Type} [BEq α] [LawfulBEq α] {l : List α} {a : α} (h : a ∈ l) : l[l.idxOf a]? = some a := by
  rw [List.getElem?_eq_getElem (List.idxOf_lt_length_of_mem h), List.getElem_idxOf]
/-- .. gives a value, whichever way -/
theorem W_val {x : Out (R × Rho)} {ρ : Rho} {d : D} {Q : R → Rho → Prop} {E : ER} (h : W x (fun r ρ' => r = .dat d ∧ ρ' = ρ) noE) (q : Q (.dat d) ρ) : W x Q E := by
  cases x with
  | ok p =>
    obtain ⟨r, ρ'⟩ := p
    obtain ⟨rfl, rfl⟩ := h
    exact q
  | err c pl r => exact h.elim
  | bad => exact h.elim
theorem ddF_map {α β : Type} [DecidableEq α] [DecidableEq β] {f : α → β} (hf : ∀ a b, f a = f b → a = b) : ∀ (l acc : List α), (ddF acc l).map f = ddF (acc.map f) (l.map f)
  | [], acc => rfl
  | x :: l, acc => by
    rw [ddF_cons, ddF_map hf l, List.map_cons, ddF_cons]
    congr 1
    by_cases c : x ∈ acc
    · rw [if_pos c, if_pos (List.mem_map.mpr ⟨x, c, rfl⟩)]
    · rw [if_neg c, if_neg (fun z => by
        obtain ⟨y, hy, e⟩ := List.mem_map.mp z
        exact c (hf _ _ e ▸ hy)), List.map_append]
      rfl
theorem setK_mk : ∀ {i : Nat} {s : Sl} {ρ : Rho} {k : Rho → Prop}, k (ρ.set i s) → setK i s ρ k
  | 0, s, x :: r, k, h => h
  | i + 1, s, x :: r, k, h => setK_mk (k := fun r' => k (x :: r')) h
  | 0, _, [], _, h => h
  | _ + 1, _, [], _, h => h
theorem wipeK_mk : ∀ {vs : List Nat} {ρ : Rho} {k : Rho → Prop}, k (wipeR ρ vs) → wipeK vs ρ k
  | [], ρ, k, h => h
  | i :: vs, ρ, k, h => wipeK_mk (vs := vs) (k := fun ρ' => setK i .no ρ' k) (setK_mk h)
/-- a comprehension whose first turn gives a place away -/
theorem Comp_mapG {Γ : Gm} {elt : PI.E} {g : G} {vs : List Nat} {l : List D} {rs : List Nat} {ρ : Rho} {Q : R → Rho → Prop} {δ : Type} {as : List δ} {fi fo : δ → D} (hl : l = as.map fi) (hn : noOwn ρ vs = true) (hz : as.length ≤ sizeLine) (hne : as ≠ [])
    (h : wipeK vs ρ fun ρ0 => ∃ ρ1, (∀ a ∈ as, Turn Γ elt g none vs (fi a) ρ0 fun y ρ' => ρ' = ρ1 ∧ y = some (fo a)) ∧ (∀ a ∈ as, Turn Γ elt g none vs (fi a) ρ1 fun y ρ' => ρ' = ρ1 ∧ y = some (fo a)) ∧ backK vs ρ ρ1 fun ρ2 => unlK rs ρ2 fun ρ3 => Q (.fre (.lst (as.map fo))) ρ3) : Comp Γ elt g none vs l rs ρ Q := by
  obtain ⟨ρ1, h1, h2, q⟩ := wipeK_eq h
  refine Comp_inv (as := as) (fi := fi) fo (fun pre ys ρ' => ys = pre ∧ ((pre = [] ∧ ρ' = wipeR ρ vs) ∨ (pre ≠ [] ∧ ρ' = ρ1))) hl hn ?_ ?_ ?_
  · exact wipeK_mk ⟨rfl, .inl ⟨rfl, rfl⟩⟩
  · rintro pre a post e ys ρ' ⟨rfl, h3⟩
    have ha : a ∈ as := by rw [e]; simp
    rcases h3 with ⟨_, rfl⟩ | ⟨_, rfl⟩
    · exact W.mono (h1 a ha) fun y ρ2 h4 => .inl ⟨a, h4.2, rfl, .inr ⟨by simp, h4.1⟩⟩
    · exact W.mono (h2 a ha) fun y ρ2 h4 => .inl ⟨a, h4.2, rfl, .inr ⟨by simp, h4.1⟩⟩
  · rintro ys ρ' ⟨rfl, h3⟩
    rcases h3 with ⟨h4, _⟩ | ⟨_, rfl⟩
    · exact absurd h4 hne
    · exact ⟨hz, q⟩
theorem W_same {Γ : Gm} {e : PI.E} {ρ : Rho} {d : D} {Q : R → Rho → Prop} {E : ER} (h : W (ev Γ e ρ) (fun r ρ' => r = .dat d ∧ ρ' = ρ) noE) (q : Q (.dat d) ρ) : W (ev Γ e ρ) Q E := W_val h q
theorem bq_max2 {a b : Nat} {K : R → Prop} (h : K (.dat (.int ((max a b : Nat) : Int)))) : Blt .max (some [.int ((a : Nat) : Int), .int ((b : Nat) : Int)]) K := by
  refine Blt_of rfl ?_
  have : (if ((a : Nat) : Int) < ((b : Nat) : Int) then ((b : Nat) : Int) else ((a : Nat) : Int)) = ((max a b : Nat) : Int) := by split <;> omega
  rw [this]
  exact h
theorem bq_min2 {a b : Nat} {K : R → Prop} (h : K (.dat (.int ((min a b : Nat) : Int)))) : Blt .min (some [.int ((a : Nat) : Int), .int ((b : Nat) : Int)]) K := by
  refine Blt_of rfl ?_
  have : (if ((b : Nat) : Int) < ((a : Nat) : Int) then ((b : Nat) : Int) else ((a : Nat) : Int)) = ((min a b : Nat) : Int) := by split <;> omega
  rw [this]
  exact h
local macro_rules | `(tactic| got_up) => `(tactic| ((with_reducible show Blt _ _ _); first | refine bq_max2 ?_ | refine bq_min2 ?_))
local macro_rules | `(tactic| got_up) => `(tactic| ((with_reducible show Op2 .Pow _ _ _); refine op_powN (by omega) (by decide) ?_))
/-- .. with a test -/
theorem Comp_filterG {Γ : Gm} {elt c : PI.E} {g : G} {vs : List Nat} {l : List D} {rs : List Nat} {ρ : Rho} {Q : R → Rho → Prop} {δ : Type} {as : List δ} {fi fo : δ → D} {p : δ → Bool} (hl : l = as.map fi) (hn : noOwn ρ vs = true) (hz : as.length ≤ sizeLine) (hne : as ≠ [])
    (h : wipeK vs ρ fun ρ0 => ∃ ρ1, (∀ a ∈ as, Turn Γ elt g (some c) vs (fi a) ρ0 fun y ρ' => ρ' = ρ1 ∧ y = if p a then some (fo a) else none) ∧ (∀ a ∈ as, Turn Γ elt g (some c) vs (fi a) ρ1 fun y ρ' => ρ' = ρ1 ∧ y = if p a then some (fo a) else none) ∧ backK vs ρ ρ1 fun ρ2 => unlK rs ρ2 fun ρ3 => Q (.fre (.lst ((as.filter p).map fo))) ρ3) : Comp Γ elt g (some c) vs l rs ρ Q := by
  obtain ⟨ρ1, h1, h2, q⟩ := wipeK_eq h
  refine Comp_inv (as := as) (fi := fi) fo (fun pre ys ρ' => ys = pre.filter p ∧ ((pre = [] ∧ ρ' = wipeR ρ vs) ∨ (pre ≠ [] ∧ ρ' = ρ1))) hl hn ?_ ?_ ?_
  · exact wipeK_mk ⟨rfl, .inl ⟨rfl, rfl⟩⟩
  · rintro pre a post e ys ρ' ⟨rfl, h3⟩
    have ha : a ∈ as := by rw [e]; simp
    have fin : ∀ (y : Option D) (ρ2 : Rho), ρ2 = ρ1 ∧ y = (if p a then some (fo a) else none) → (∃ b, y = some (fo b) ∧ (pre.filter p ++ [b] = (pre ++ [a]).filter p ∧ ((pre ++ [a] = [] ∧ ρ2 = wipeR ρ vs) ∨ (pre ++ [a] ≠ [] ∧ ρ2 = ρ1)))) ∨ (y = none ∧ pre.filter p = (pre ++ [a]).filter p ∧ ((pre ++ [a] = [] ∧ ρ2 = wipeR ρ vs) ∨ (pre ++ [a] ≠ [] ∧ ρ2 = ρ1))) := by
      rintro y ρ2 ⟨rfl, rfl⟩
      cases hp : p a with
      | true => exact .inl ⟨a, rfl, by simp [hp], .inr ⟨by simp, rfl⟩⟩
      | false => exact .inr ⟨rfl, by simp [hp], .inr ⟨by simp, rfl⟩⟩
    rcases h3 with ⟨_, rfl⟩ | ⟨_, rfl⟩
    · exact W.mono (h1 a ha) fin
    · exact W.mono (h2 a ha) fin
  · rintro ys ρ' ⟨rfl, h3⟩
    rcases h3 with ⟨h4, _⟩ | ⟨_, rfl⟩
    · exact absurd h4 hne
    · exact ⟨Nat.le_trans (List.length_filter_le p as) hz, q⟩
local macro_rules | `(tactic| leaf_len) => `(tactic| repeat' (first | ((with_reducible show stK _ _ _ _); (repeat with_reducible refine stK_s ?_); first | with_reducible refine stK_n ?_ | with_reducible refine stK_v ?_ | with_reducible refine stK_o ?_ | with_reducible refine stK_k (by assumption) ?_ | with_reducible refine stK_kV (by assumption) ?_) | ((with_reducible show W _ _ _); first | ((with_reducible show W (ev _ _ _) _ _); first | with_reducible refine W_var (by with_unfolding_all exact rfl) ?_ | with_reducible refine W_con ?_ | with_reducible refine W_ix ?_ | with_reducible refine W_cmp ?_ | with_reducible refine P_call ?_ | with_reducible refine W_blt ?_ | with_reducible refine W_op ?_ | with_reducible refine W_comp ?_ | with_reducible refine W_tup (by with_unfolding_all exact rfl) ?_ | with_reducible refine W_not ?_ | with_reducible refine W_lst (by with_unfolding_all exact rfl) ?_ | with_reducible refine W_chain ?_ | with_reducible refine W_chain3 ?_ | with_reducible refine W_rngVN ?_ | with_reducible refine P_callio (by with_unfolding_all exact rfl) ?_ | with_reducible refine W_mut (by with_unfolding_all exact rfl) ?_ | with_reducible refine W_sl ?_ | with_reducible refine P_menu ?_ | with_reducible refine un_inv ?_ | with_reducible refine un_neg ?_ | with_reducible refine W_rngN ?_ | with_reducible refine W_isa ?_ | with_reducible refine W_dsp ?_ | with_reducible refine W_dnew ?_ | with_reducible refine W_rev ?_ | with_reducible refine W_mth ?_ | with_reducible refine W_spl ?_ | with_reducible refine W_dcomp ?_) | with_reducible refine W_cons ?_ | with_reducible refine W_nil ?_ | with_reducible refine W_rcons ?_ | with_reducible refine W_rnil ?_ | with_reducible refine W_tr ?_ | with_reducible refine W_ono ?_ | with_reducible refine W_osome ?_ | with_reducible refine P_cons ?_ | with_reducible refine P_nil ?_ | with_reducible refine W_spT ?_ | with_reducible refine W_spF ?_ | with_reducible refine W_spn ?_) | ((with_reducible show WS _ _ _); first | with_reducible refine S_cons ?_ | with_reducible refine S_nil ?_ | with_reducible refine S_asg ?_ | with_reducible refine S_ret ?_ | with_reducible refine S_ite ?_ | with_reducible refine S_ex ?_ | with_reducible refine S_for ?_ | with_reducible refine S_par ?_ | with_reducible refine S_aug (by with_unfolding_all exact rfl) (by with_unfolding_all exact rfl) ?_ | with_reducible refine S_retN ?_ | with_reducible refine S_raise ?_ | with_reducible refine S_tryk ?_ | with_reducible refine S_brk ?_ | with_reducible refine S_cnt ?_ | with_reducible refine S_pass ?_ | with_reducible refine S_setix ?_) | ((with_reducible show getK _ _ _); (repeat with_reducible refine getK_s ?_); with_reducible refine getK_z ?_) | ((with_reducible show setK _ _ _ _); (repeat with_reducible refine setK_s ?_); with_reducible refine setK_z ?_) | ((with_reducible show Giv _ _ _); first | with_reducible refine giv_dat ?_ | with_reducible refine giv_fre ?_ | with_reducible refine giv_own (by with_unfolding_all exact rfl) ?_ | with_reducible refine giv_val (by with_unfolding_all exact rfl) ?_) | ((with_reducible show thn _ _ _ _ _); first | with_reducible refine thn_nx ?_ | with_reducible refine thn_rt ?_ | with_reducible refine thn_bk ?_ | with_reducible refine thn_ct ?_) | ((with_reducible show Asg _ _ _ _); first | with_reducible refine asg_fre ?_ | with_reducible refine asg_dat ?_ | with_reducible refine asg_pl ?_ | with_reducible refine asg_tup ?_) | ((with_reducible show Cm2 _ _ _ _); first | refine cm_eqN ?_ | refine cm_neN ?_ | refine cm_ltN ?_ | refine cm_leN ?_ | refine cm_gtN ?_ | refine cm_geN ?_ | refine cm_eq ?_ | refine cm_ne ?_ | refine cm_lt ?_ | refine cm_le ?_ | refine cm_gt ?_ | refine cm_ge ?_ | refine cm_isT ?_ | refine cm_isNT ?_) | ((with_reducible show Op2 _ _ _ _); first | ((with_reducible show Op2 .Pow _ _ _); refine op_powN (by omega) (by decide) ?_) | ((with_reducible show Op2 .Mult _ _ _); refine op_lmul (by omega) (line_le (by simp; omega)) ?_) | refine op_addN ?_ | refine op_add ?_ | refine op_subN (by omega) ?_ | refine op_sub ?_ | refine op_modN (by omega) ?_ | refine op_modN ?_ ?_ | refine op_fdivN (by omega) (by omega) ?_ | refine op_fdivN ?_ ?_ ?_ | refine op_shrN ?_ | refine op_shl1 (by omega) ?_ | refine op_shl1 ?_ ?_ | refine op_shlN (by omega) (by omega) ?_ | refine op_shlN ?_ ?_ ?_ | refine op_mulN (by omega) ?_ | refine op_mulN ?_ ?_ | refine op_mul ?_ ?_ | refine op_andNot ?_ | refine op_andN ?_ | refine op_orN ?_ | refine op_xorN ?_ | refine op_powN ?_ ?_ ?_ | refine op_lstM (line_le (by omega)) ?_ | refine op_lstM ?_ ?_ | refine op_lst (line_le (by simp; first | done | fail)) ?_ | refine op_lst ?_ ?_ | refine op_tup (line_le (by simp; omega)) ?_ | refine op_tup ?_ ?_ | refine op_tmul (List.cons_ne_nil _ _) (by omega) (by omega) (by simp; first | done | fail) ?_ | refine op_lmul (by omega) (line_le (by simp; first | done | fail)) ?_) | ((with_reducible show Ixx _ _ _); first | refine ix_lstN (by assumption) ?_ | refine ix_tupN (by assumption) ?_ | refine ix_lstN (by omega) ?_ | refine ix_tupN (by omega) ?_ | refine ix_lstN ?_ ?_ | refine ix_tupN ?_ ?_ | refine ix_lst (by exact rfl) ?_ | refine ix_tup (by exact rfl) ?_ | refine Ixx_of rfl ?_) | ((with_reducible show Blt _ _ _); first | refine bq_max2 ?_ | refine bq_min2 ?_ | refine bq_lenM ?_ | refine bq_lenMT ?_ | refine bq_int ?_ | refine bq_intB ?_ | refine bq_sumN ?_ | refine bq_minN (by assumption) ?_ | refine bq_maxN (by assumption) ?_ | refine bq_lenL ?_ | refine bq_lenT ?_ | refine bq_lenD ?_ | refine bq_all ?_ | refine bq_any ?_ | refine bq_tupL ?_ | refine bq_tupT ?_ | refine bq_lstL ?_ | refine bq_lstT ?_) | ((with_reducible show Iff3 _ _ _); first | refine iff_t ?_ | refine iff_f ?_) | ((with_reducible show Tru _ _); first | refine tru_bl ?_ | refine tru_intN ?_ | refine tru_lst ?_ | refine tru_tup ?_ | refine tru_non ?_) | ((with_reducible show Bnd _ _ _ _); first | refine bnd_name ?_ | refine bnd_tup ?_ | refine bnd_lst ?_) | ((with_reducible show Bnds _ _ _ _); first | refine bnds_cons ?_ | refine bnds_nil ?_) | ((with_reducible show Cl (endFl _ _) _ _); first | with_reducible refine fin_dat ?_ | with_reducible refine fin_fre ?_ | with_reducible refine fin_own (by with_unfolding_all exact rfl) ?_ | with_reducible refine fin_nx ?_ | with_reducible refine fio_dat ?_ | with_reducible refine fio_fre ?_ | with_reducible refine fio_own (by with_unfolding_all exact rfl) ?_ | with_reducible refine fio_nx ?_) | ((with_reducible show WI _ _ _); first | with_reducible refine WI_seq ?_ | with_reducible refine WI_rng1 ?_ | with_reducible refine WI_enum ?_ | with_reducible refine WI_rng2 ?_ | with_reducible refine WI_zip ?_) | ((with_reducible show NatIs _ _); first | refine natIs (by omega) ?_ | refine natIs (by simp; omega) ?_ | refine natIs (by omega) ?_ | refine natIs ?_ ?_) | ((with_reducible show Mut _ _ _ _); first | refine mq_appendM (line_lt (by omega)) ?_ | refine mq_appendM ?_ ?_ | refine mq_append ?_ ?_ | refine mq_reverseM ?_ | refine mq_reverse ?_ | refine mq_popM ?_) | ((with_reducible show OpA _ _ _ _); first | refine opa_fdivN (by decide) (by decide) ?_ | refine opa_addN ?_ | refine opa_subN (by omega) ?_ | refine opa_orN ?_ | refine opa_andN ?_ | refine opa_xorN ?_ | refine opa_mulN (by omega) ?_) | ((with_reducible show Isa _ _ _); refine isa_of (by with_unfolding_all exact rfl) ?_) | ((with_reducible show Rvx _ _); first | refine rv_lst ?_ | refine rv_tup ?_) | ((with_reducible show Spl _ _); first | refine spl_lst ?_ | refine spl_tup ?_) | ((with_reducible show KindIs _ _ _); refine kindIs rfl ?_) | ((with_reducible show OwnL _ _ _); refine ownL (by with_unfolding_all exact rfl) (by with_unfolding_all exact rfl) ?_) | ((with_reducible show OwnK _ _ _); refine ownK (by with_unfolding_all exact rfl) (by with_unfolding_all exact rfl) ?_) | ((with_reducible show BoolIs _ _); refine boolIs ?_) | ((with_reducible show IntIs _ _); refine IntIs.mk ?_) | ((with_reducible show thnN _ _ _ _ _ _); first | with_reducible refine thnN_nx ?_ | with_reducible refine thnN_rt ?_ | with_reducible refine thnN_bk ?_ | with_reducible refine thnN_ct ?_) | ((with_reducible show WN _ _ _ _ _ _); first | with_reducible refine WN_s ?_ | with_reducible refine WN_z ?_) | ((with_reducible show Lend _ _ _); first | with_reducible refine lend_dat (by with_unfolding_all exact rfl) ?_ | with_reducible refine lend_fre (by with_unfolding_all exact rfl) ?_ | with_reducible refine lend_own (by with_unfolding_all exact rfl) ?_ | with_reducible refine lend_lent (by with_unfolding_all exact rfl) ?_) | ((with_reducible show LendE _ _ _); first | with_reducible refine lendE (by with_unfolding_all exact rfl) ?_) | ((with_reducible show wipeK _ _ _); first | with_reducible refine wipeK_n ?_ | with_reducible refine wipeK_c ?_) | ((with_reducible show backK _ _ _ _); first | with_reducible refine backK_n ?_ | with_reducible refine backK_c ?_) | ((with_reducible show unlK _ _ _); first | with_reducible refine unlK_n ?_ | with_reducible refine unlK_c (by with_unfolding_all exact rfl) ?_) | ((with_reducible show lp _ _ _); first | with_reducible refine lp_nx ?_ | with_reducible refine lp_ct ?_ | with_reducible refine lp_bk ?_ | with_reducible refine lp_rt ?_) | ((with_reducible show unF _ _ _); first | with_reducible refine unF_nx ?_ | with_reducible refine unF_rt ?_) | ((with_reducible show exJ _ _ _ _); first | with_reducible refine exJ_nx ?_ | with_reducible refine exJ_rt ?_) | ((with_reducible show Kee _ _ _); first | with_reducible refine kee_fre ?_ | with_reducible refine kee_dat ?_ | with_reducible refine kee_pl ?_) | ((with_reducible show stsK _ _ _ _); first | with_reducible refine sts_n ?_ | with_reducible refine sts_c ?_) | with_reducible refine sameR ?_ | with_reducible refine body_of ?_ | with_reducible refine Turn_none ?_ | with_reducible refine DTurn_none ?_ | with_reducible refine Turn_some ?_ | ((with_reducible show ownAny _ _ = some () ∧ _); refine ⟨by with_unfolding_all exact rfl, ?_⟩) | ((with_reducible show Cl _ _ _); nest_cls) | fail))
theorem dn_eqv (a b : Nat) : (dn a).eqv (dn b) = decide (a = b) := by
  rw [int_eqvI]
  exact decide_eq_decide.mpr (by omega)
theorem dns_eqv (a b : List Nat) : (D.tup (a.map dn)).eqv (D.tup (b.map dn)) = decide (a = b) := by
  rw [iT_cI, iT_cI, iT_eqv]
  exact decide_eq_decide.mpr ⟨cI_inj, fun e => by rw [e]⟩
/-- each one's lead and round -/
abbrev Lds (ts : List Nat) (tp : Nat → Nat × Nat) : Prop := ∀ s, s < ts.length → Ld (fT ts) s (tp s).1 (tp s).2
/-- a standing's round, its least one first -/
def rnd1 (ts : List Nat) (tp : Nat → Nat × Nat) (s : Nat) : List Nat := trn (rd (fT ts) s (tp s).1 (tp s).2)
def rnds (ts : List Nat) (tp : Nat → Nat × Nat) : List (List Nat) := (srtT (ddF [] ((List.range ts.length).map fun s => cI (rnd1 ts tp s)))).map fun c => c.map Int.toNat
theorem lead_by_eq {k s : Nat} {ts : List Nat} {tp : Nat → Nat × Nat} (h : Tb ts) (g : Lds ts tp) (hs : s < ts.length) : callN pgP (k + 1) ix_lead_by [.lst (ts.map dn), .int (s : Nat)] = .ok (.tup [dn (tp s).1, .lst ((rd (fT ts) s (tp s).1 (tp s).2).map dn)]) false .non := by
  obtain ⟨x, hx, e⟩ := lead_by_ok (k := k) h hs
  obtain ⟨e1, e2⟩ := (g s hs).uniq hx
  rw [e1, e2]
  exact e
theorem rnd1_len {ts : List Nat} {tp : Nat → Nat × Nat} {s : Nat} (l : Ld (fT ts) s (tp s).1 (tp s).2) : (rnd1 ts tp s).length = (tp s).2 := by
  obtain ⟨i, hi, e, _⟩ := l.turn
  unfold rnd1
  rw [e, rd_len]
theorem rnd1_ne {ts : List Nat} {tp : Nat → Nat × Nat} {s : Nat} (l : Ld (fT ts) s (tp s).1 (tp s).2) : rnd1 ts tp s ≠ [] := fun z => by
  have := rnd1_len l
  rw [z] at this
  have := l.pos
  simp at *
  omega
theorem rnds_key {ts : List Nat} {tp : Nat → Nat × Nat} (g : Lds ts tp) : ∀ c ∈ ddF [] ((List.range ts.length).map fun s => cI (rnd1 ts tp s)), c ≠ [] ∧ ∃ s, s < ts.length ∧ c = cI (rnd1 ts tp s) := fun c hc => by
  have hc' := (mem_ddF.mp hc).resolve_left (by simp)
  obtain ⟨s, hs, rfl⟩ := List.mem_map.mp hc'
  have hs' := List.mem_range.mp hs
  refine ⟨fun z => rnd1_ne (g s hs') ?_, s, hs', rfl⟩
  exact List.map_eq_nil_iff.mp z
theorem mem_rnds {ts : List Nat} {tp : Nat → Nat × Nat} (g : Lds ts tp) (r : List Nat) : r ∈ rnds ts tp ↔ ∃ s, s < ts.length ∧ r = rnd1 ts tp s := by
  unfold rnds
  rw [((srtT_permQ (ddF [] ((List.range ts.length).map fun s => cI (rnd1 ts tp s)))).map fun c => c.map Int.toNat).mem_iff, List.mem_map]
  constructor
  · rintro ⟨c, hc, rfl⟩
    obtain ⟨_, s, hs, rfl⟩ := rnds_key g c hc
    exact ⟨s, hs, nat_back _⟩
  · rintro ⟨s, hs, rfl⟩
    exact ⟨_, mem_ddF.mpr (.inr (List.mem_map.mpr ⟨s, List.mem_range.mpr hs, rfl⟩)), nat_back _⟩
theorem rnds_Rds {ts : List Nat} {tp : Nat → Nat × Nat} (h : Tb ts) (g : Lds ts tp) : Rds ts (rnds ts tp) := by
  have pm2 := (srtT_permQ (ddF [] ((List.range ts.length).map fun s => cI (rnd1 ts tp s)))).map fun c => c.map Int.toNat
  refine ⟨fun r hr => ?_, fun s t p hs l => ?_, ?_, ?_⟩
  · obtain ⟨s, hs, rfl⟩ := (mem_rnds g r).mp hr
    obtain ⟨i, hi, e, hm⟩ := (g s hs).turn
    have := (g s hs).le h hs
    exact ⟨_, _, it_lt h.cl hs _, by omega, e, (g s hs).at hi, hm⟩
  · refine (mem_rnds g _).mpr ⟨s, hs, ?_⟩
    obtain ⟨e1, e2⟩ := l.uniq (g s hs)
    unfold rnd1
    rw [e1, e2]
  · refine (pm2.nodup_iff).mpr ?_
    rw [List.nodup_iff_pairwise_ne, List.pairwise_map]
    refine List.Pairwise.imp_of_mem ?_ (nodup_ddF (l := (List.range ts.length).map fun s => cI (rnd1 ts tp s)) (acc := []) (by simp))
    intro a b ha hb ne e
    obtain ⟨_, s, _, rfl⟩ := rnds_key g a ha
    obtain ⟨_, s', _, rfl⟩ := rnds_key g b hb
    rw [nat_back, nat_back] at e
    exact ne (by rw [e])
  · unfold rnds
    rw [List.length_map, (srtT_permQ _).length_eq]
    have := @len_ddF _ _ ((List.range ts.length).map fun s => cI (rnd1 ts tp s)) []
    simpa using this
theorem rnds_back {ts : List Nat} {tp : Nat → Nat × Nat} (g : Lds ts tp) : (srtT (ddF [] ((List.range ts.length).map fun s => cI (rnd1 ts tp s)))).map tupI = (rnds ts tp).map fun r => .tup (r.map dn) := by
  unfold rnds
  rw [List.map_map]
  refine List.map_congr_left fun c hc => ?_
  obtain ⟨_, s, _, rfl⟩ := rnds_key g c ((srtT_permQ _).mem_iff.mp hc)
  show iT _ = _
  rw [Function.comp, nat_back, iT_cI]
theorem rounds_eq {k : Nat} {ts : List Nat} {tp : Nat → Nat × Nat} (h : Tb ts) (g : Lds ts tp) : callN pgP (k + 2) ix_rounds_of [.lst (ts.map dn)] = .ok (.lst ((rnds ts tp).map fun r => .tup (r.map dn))) true .non := by
  have hle := h.le
  refine Cl_is (go_rounds_of ?_)
  leaf_len
  refine DComp_map (as := List.range ts.length) (fi := dn) (ko := fun s => iT (cI (rnd1 ts tp s))) (v := .bl true) true rfl rfl (line_lt (by simp; omega)) ?_ ?_ ?_
  · intro s _
    refine ⟨rfl, ?_⟩
    show List.all _ keyA = true
    rw [List.all_map]
    exact List.all_eq_true.mpr fun _ _ => rfl
  · leaf_len
    intro s hs
    have hs := List.mem_range.mp hs
    leaf_len
    refine Cl_ok (lead_by_eq h g hs) ?_
    leaf_len
    have hl := (g s hs).le h hs
    have hpos := (g s hs).pos
    refine Cl_ok (turned_ok (fun z => ?_) (by rw [rd_len]; omega)) ?_
    · have := congrArg List.length z
      rw [rd_len] at this
      simp at this
      omega
    leaf_len
    refine ⟨rfl, ?_⟩
    rw [← iT_cI]
    rfl
  · leaf_len
    intro t' ws ht
    have e : ((List.range ts.length).map fun s => iT (cI (rnd1 ts tp s))).foldl putK [] = (ddF [] ((List.range ts.length).map fun s => cI (rnd1 ts tp s))).map iT := by
      have := putK_ddF (g := iT) iT_eqv ((List.range ts.length).map fun s => cI (rnd1 ts tp s)) []
      rw [← this]
      simp only [List.map_map]
      rfl
    rw [e]
    have ht' : t' = true := ht fun z => by
      have e1 := congrArg List.length z
      have e2 := h.pos
      rw [List.length_range, List.length_nil] at e1
      omega
    subst ht'
    leaf_len
    refine bq_sortT (tups_of fun c hc => (rnds_key g c hc).1) ?_
    leaf_len
    exact ⟨congrArg D.lst (rnds_back g), rfl, rfl⟩
local macro_rules | `(tactic| nest_cls) => `(tactic| with_reducible refine Cl_ok (rounds_eq (by assumption) (by assumption)) ?_)
local macro_rules | `(tactic| nest_cls) => `(tactic| with_reducible refine Cl_ok (lead_by_eq (by assumption) (by assumption) (by assumption)) ?_)
theorem it_map2 {ts : List Nat} (a b : Nat) : ((List.range ts.length).map fun s => it (fT ts) s a).map (fun x => dn (it (fT ts) x b)) = ((List.range ts.length).map fun s => it (fT ts) s (a + b)).map dn := by
  rw [List.map_map, List.map_map]
  refine List.map_congr_left fun s _ => ?_
  show dn (it (fT ts) (it (fT ts) s a) b) = dn (it (fT ts) s (a + b))
  rw [it_add]
theorem powered_ok {k t : Nat} {ts : List Nat} (h : Tb ts) (ht : t < 2 ^ 120) : callN pgP (k + 1) ix_powered [.lst (ts.map dn), .int (t : Nat)] = .ok (.lst (((List.range ts.length).map fun s => it (fT ts) s t).map dn)) true .non := by
  refine Cl_is (go_powered ?_)
  have hle := h.le
  leaf_len
  refine ⟨by omega, ?_⟩
  leaf_len
  refine S_whl (fun m ρ => ∃ a b u, a + b * u = t ∧ u < 2 ^ m ∧ ρ = [.val (.lst (ts.map dn)), .val (.int (u : Nat)), .own 0 (.lst (((List.range ts.length).map fun s => it (fT ts) s a).map dn)), .own 0 (.lst (((List.range ts.length).map fun s => it (fT ts) s b).map dn)), .no]) 120 ?_ ?_ ?_
  · refine ⟨0, 1, t, by omega, ht, ?_⟩
    have e1 : (List.range ts.length).map (fun s => it (fT ts) s 0) = List.range ts.length := by
      show (List.range ts.length).map (fun s => s) = _
      simp
    have e2 : (List.range ts.length).map (fun s => it (fT ts) s 1) = ts := by
      refine List.ext_getElem (by simp) fun i h1 h2 => ?_
      simp [it, fT, h2]
    rw [e1, e2]
  · show 120 < pgP.fuel
    decide
  · rintro m ρ ⟨a, b, u, e, hu, rfl⟩
    leaf_len
    refine iff3 (fun hz => ?_) (fun hz => ?_)
    · simp at hz
      obtain ⟨m, rfl⟩ : ∃ m', m = m' + 1 := ⟨m - 1, by
        cases m with
        | zero => simp at hu; omega
        | succ m => simp⟩
      have hu2 : u / 2 < 2 ^ m := by
        rw [Nat.pow_succ] at hu
        omega
      have lt : ∀ (a : Nat) (y : Nat) (_ : y ∈ (List.range ts.length).map fun s => it (fT ts) s a), y < ts.length := fun a y hy => by
        obtain ⟨s, hs, rfl⟩ := List.mem_map.mp hy
        exact it_lt h.cl (List.mem_range.mp hs) a
      leaf_len
      refine iff3 (fun ho => ?_) (fun ho => ?_)
      · simp at ho
        leaf_len
        refine Comp_map (as := (List.range ts.length).map fun s => it (fT ts) s a) (fi := dn) (fo := fun x => dn (it (fT ts) x b)) rfl rfl (line_le (by simp; omega)) ?_ ?_
        · leaf_len
          intro x hx
          have hlt := lt a x hx
          leaf_len
          · simpa using hlt
          leaf_len
          rw [getD_rng hlt]
          exact ⟨rfl, rfl⟩
        rw [it_map2]
        leaf_len
        refine Comp_map (as := (List.range ts.length).map fun s => it (fT ts) s b) (fi := dn) (fo := fun x => dn (it (fT ts) x b)) rfl rfl (line_le (by simp; omega)) ?_ ?_
        · leaf_len
          intro x hx
          have hlt := lt b x hx
          leaf_len
          · simpa using hlt
          leaf_len
          rw [getD_rng hlt]
          exact ⟨rfl, rfl⟩
        rw [it_map2]
        leaf_len
        refine ⟨m, by omega, a + b, b + b, u / 2, ?_, hu2, rfl⟩
        have : u = 2 * (u / 2) + 1 := by omega
        rw [← e, ← Nat.mul_two b, Nat.mul_assoc, Nat.add_assoc]
        congr 1
        rw [show b * u = b * (2 * (u / 2) + 1) by rw [← this], Nat.mul_add, Nat.mul_one, Nat.add_comm]
      · simp at ho
        leaf_len
        refine Comp_map (as := (List.range ts.length).map fun s => it (fT ts) s b) (fi := dn) (fo := fun x => dn (it (fT ts) x b)) rfl rfl (line_le (by simp; omega)) ?_ ?_
        · leaf_len
          intro x hx
          have hlt := lt b x hx
          leaf_len
          · simpa using hlt
          leaf_len
          rw [getD_rng hlt]
          exact ⟨rfl, rfl⟩
        rw [it_map2]
        leaf_len
        refine ⟨m, by omega, a, b + b, u / 2, ?_, hu2, rfl⟩
        have : u = 2 * (u / 2) := by omega
        rw [← e, ← Nat.mul_two b, Nat.mul_assoc]
        congr 2
        exact this.symm
    · simp at hz
      subst hz
      leaf_len
      refine ⟨?_, rfl, rfl⟩
      rw [show a = t by omega]
theorem check_steps_ok {k t m : Nat} (h : t ≤ m) : callN pgP (k + 1) ix_check_steps [.int (t : Nat), .int (m : Nat)] = .ok .non false .non := by
  refine Cl_is (go_check_steps ?_)
  leaf_len
  refine iff3 (fun h => ?_) (fun h => ?_)
  · simp at h
    omega
  · leaf_len
    exact ⟨rfl, rfl, rfl⟩
theorem check_steps_no {k m : Nat} {t : Int} (h : t < 0 ∨ (m : Int) < t) : callN pgP (k + 1) ix_check_steps [.int t, .int (m : Nat)] = .err 5 [] := by
  refine Cl_erIs (go_check_steps ?_)
  leaf_len
  refine iff3 (fun h => ?_) (fun h => ?_)
  · leaf_len
    exact ⟨rfl, rfl⟩
  · simp at h
    omega
section
variable {n : Nat} {rs : List Nat} {tp : Nat → Nat × Nat}
theorem rounds_ok {k : Nat} (hK : NetK n rs) (hT : Tb (tb n rs)) (g : Lds (tb n rs) tp) : callN pgP (k + 3) ix_rounds [netD n rs] = .ok (.lst ((rnds (tb n rs) tp).map fun r => .tup (r.map dn))) true .non := by
  refine Cl_is (go_rounds ?_)
  have h8 := hK.le8
  have hl8 := hK.l
  leaf_len
  exact ⟨rfl, rfl, rfl⟩
theorem lead_ok {k s : Nat} (hK : NetK n rs) (hT : Tb (tb n rs)) (g : Lds (tb n rs) tp) (hs : s < 2 ^ n) : callN pgP (k + 4) ix_lead [netD n rs, .int (s : Nat)] = .ok (.int ((tp s).1 : Nat)) false .non := by
  refine Cl_is (go_lead ?_)
  have h8 := hK.le8
  have hl8 := hK.l
  have hs' : s < (tb n rs).length := by rw [tb_len]; exact hs
  leaf_len
  exact ⟨rfl, rfl, rfl⟩
theorem length_ok {k s : Nat} (hK : NetK n rs) (hT : Tb (tb n rs)) (g : Lds (tb n rs) tp) (hs : s < 2 ^ n) : callN pgP (k + 4) ix_length [netD n rs, .int (s : Nat)] = .ok (.int ((tp s).2 : Nat)) false .non := by
  refine Cl_is (go_length ?_)
  have h8 := hK.le8
  have hl8 := hK.l
  have hs' : s < (tb n rs).length := by rw [tb_len]; exact hs
  leaf_len
  refine ⟨?_, rfl, rfl⟩
  rw [rd_len]
theorem lead_no {k : Nat} {s : Int} (hK : NetK n rs) (hs : s < 0 ∨ ((2 ^ n : Nat) : Int) ≤ s) : callN pgP (k + 4) ix_lead [netD n rs, .int s] = .err 2 [] := by
  refine Cl_erIs (go_lead ?_)
  leaf_len
  exact ⟨rfl, rfl⟩
theorem length_no {k : Nat} {s : Int} (hK : NetK n rs) (hs : s < 0 ∨ ((2 ^ n : Nat) : Int) ≤ s) : callN pgP (k + 4) ix_length [netD n rs, .int s] = .err 2 [] := by
  refine Cl_erIs (go_length ?_)
  leaf_len
  exact ⟨rfl, rfl⟩
theorem road_in {N : Nat} {f : Nat → Nat} {s k : Nat} : (List.range (k + 1)).map (it f s) ≠ [] := by simp
theorem road_ok {k t s : Nat} (hK : NetK n rs) (hs : s < 2 ^ n) (ht : t ≤ 1000) : callN pgP (k + 4) ix_road [netD n rs, .int (s : Nat), .int (t : Nat)] = .ok (.tup (((List.range (t + 1)).map (it (fT (tb n rs)) s)).map dn)) false .non := by
  refine Cl_is (go_road ?_)
  have hT := tb_Tb hK
  have hle := hT.le
  have h8 := hK.le8
  have hl8 := hK.l
  have hs' : s < (tb n rs).length := by rw [tb_len]; exact hs
  leaf_len
  refine Cl_ok (check_steps_ok ht) ?_
  leaf_len
  refine For_inv (as := List.range t) (fi := dn) (fun pre ρ => ∃ s5, ρ = [.val (netD n rs), .val (.int (s : Nat)), .val (.int (t : Nat)), .own 0 (.lst ((tb n rs).map dn)), .own 0 (.lst (((List.range (pre.length + 1)).map (it (fT (tb n rs)) s)).map dn)), s5] ∧ okQ s5) rfl (.inl rfl) ?_ ?_ ?_
  · exact ⟨_, rfl, trivial⟩
  · rintro pre j post e ρ ⟨s5, rfl, k5⟩
    have hp := split_lt e
    simp at hp
    leaf_len
    refine ix_lastM last_rng ?_
    have hlt := it_lt hT.cl hs' pre.length
    leaf_len
    · exact line_lt (by simp; omega)
    refine ⟨.val (dn j), ?_, trivial⟩
    rw [List.length_append, List.length_singleton, it_snoc (L := pre.length + 1)]
    rfl
  · rintro ρ ⟨s5, rfl, k5⟩
    simp only [List.length_range]
    leaf_len
    exact ⟨rfl, rfl, rfl⟩
end
section
variable {n : Nat} {rs : List Nat} {tp : Nat → Nat × Nat}
theorem behind_ok {k s t : Nat} (hK : NetK n rs) (hs : s < 2 ^ n) (ht : t ≤ 10 ^ 30) : callN pgP (k + 4) ix_behind [netD n rs, .int (s : Nat), .int (t : Nat)] = .ok (.int ((it (fT (tb n rs)) s t : Nat) : Int)) false .non := by
  refine Cl_is (go_behind ?_)
  have hT := tb_Tb hK
  have hle := hT.le
  have h8 := hK.le8
  have hl8 := hK.l
  have hs' : s < (tb n rs).length := by rw [tb_len]; exact hs
  leaf_len
  refine Cl_ok (check_steps_ok ht) ?_
  leaf_len
  refine Cl_ok (powered_ok hT (Nat.lt_of_le_of_lt ht (by decide))) ?_
  leaf_len
  · simpa using hs'
  leaf_len
  rw [getD_rng hs']
  exact ⟨rfl, rfl, rfl⟩
theorem power_ok {k t : Nat} (hK : NetK n rs) (ht : t ≤ 10 ^ 30) : callN pgP (k + 4) ix_power [netD n rs, .int (t : Nat)] = .ok (netD n (nof n ((List.range (2 ^ n)).map fun s => it (fT (tb n rs)) s t))) false .non := by
  refine Cl_is (go_power ?_)
  have hT := tb_Tb hK
  have hle := hT.le
  have h8 := hK.le8
  have hl8 := hK.l
  leaf_len
  refine Cl_ok (check_steps_ok ht) ?_
  leaf_len
  refine Cl_ok (powered_ok hT (Nat.lt_of_le_of_lt ht (by decide))) ?_
  leaf_len
  rw [tb_len] at hle ⊢
  refine Cl_ok (net_of_ok (.inl rfl) (by omega) (by simp; omega)) ?_
  leaf_len
  exact ⟨rfl, rfl, rfl⟩
theorem leading_to_ok {k s t : Nat} (hK : NetK n rs) (hs : s < 2 ^ n) (ht : t ≤ 10 ^ 30) : callN pgP (k + 4) ix_leading_to [netD n rs, .int (s : Nat), .int (t : Nat)] = .ok (.tup (((List.range (2 ^ n)).filter fun a => decide (it (fT (tb n rs)) a t = s)).map dn)) false .non := by
  refine Cl_is (go_leading_to ?_)
  have hT := tb_Tb hK
  have hle := hT.le
  have h8 := hK.le8
  have hl8 := hK.l
  leaf_len
  refine Cl_ok (check_steps_ok ht) ?_
  leaf_len
  refine Cl_ok (powered_ok hT (Nat.lt_of_le_of_lt ht (by decide))) ?_
  leaf_len
  rw [tb_len] at hle ⊢
  rw [enumD_map, zip_range, List.length_map, List.length_range]
  refine Comp_filter (as := (List.range (2 ^ n)).map fun i => (((List.range (2 ^ n)).map fun s => it (fT (tb n rs)) s t).getD i 0, i)) (fi := fun p => .tup [.int ((p.2 : Nat) : Int), dn p.1]) (fo := fun p => dn p.2) (p := fun p => decide (p.1 = s)) rfl rfl (line_le (by simp; omega)) ?_ ?_
  · leaf_len
    intro p hp
    leaf_len
    refine iff3 (fun h => ?_) (fun h => ?_)
    · leaf_len
      exact ⟨rfl, by rw [h]; rfl⟩
    · leaf_len
      exact ⟨rfl, by rw [h]; rfl⟩
  · leaf_len
    refine ⟨?_, rfl, rfl⟩
    congr 1
    rw [List.filter_map, List.map_map]
    have : ((List.range (2 ^ n)).filter fun a => decide (it (fT (tb n rs)) a t = s)) = (List.range (2 ^ n)).filter ((fun p : Nat × Nat => decide (p.1 = s)) ∘ fun i => (((List.range (2 ^ n)).map fun s => it (fT (tb n rs)) s t).getD i 0, i)) := List.filter_congr fun i hi => by
      show _ = decide (((List.range (2 ^ n)).map fun s => it (fT (tb n rs)) s t).getD i 0 = s)
      rw [getD_rng (List.mem_range.mp hi)]
    rw [this]
    rfl
theorem unreached_ok {k : Nat} (hK : NetK n rs) : callN pgP (k + 3) ix_unreached [netD n rs] = .ok (.tup (((List.range (2 ^ n)).filter fun a => !decide (a ∈ tb n rs)).map dn)) false .non := by
  refine Cl_is (go_unreached ?_)
  have hT := tb_Tb hK
  have hle := hT.le
  have h8 := hK.le8
  have hl8 := hK.l
  leaf_len
  refine DComp_map (as := tb n rs) (fi := dn) (ko := dn) (v := .bl true) false rfl rfl (line_lt (by omega)) (fun _ _ => ⟨rfl, rfl⟩) ?_ ?_
  · leaf_len
    intro i hi
    leaf_len
    exact ⟨rfl, rfl⟩
  · leaf_len
    intro t' ws ht
    have e := putK_ddF (g := dn) dn_eqv (tb n rs) []
    have e' : ((tb n rs).map dn).foldl putK [] = (ddF [] (tb n rs)).map dn := e
    rw [e']
    have ht' : t' = false := ht fun z => by
      have := hT.pos
      rw [z] at this
      simp at this
    subst ht'
    have h2 := two_le h8
    leaf_len
    rw [tb_len]
    refine Comp_filter (as := List.range (2 ^ n)) (fi := dn) (fo := dn) (p := fun a => !decide (a ∈ tb n rs)) rfl rfl (line_le (by rw [List.length_range]; omega)) ?_ ?_
    · leaf_len
      intro a ha
      leaf_len
      refine cm_ninD ks_int ?_
      rw [any_dn]
      have e3 : decide (a ∈ ddF [] (tb n rs)) = decide (a ∈ tb n rs) := decide_eq_decide.mpr (by rw [mem_ddF]; simp)
      rw [e3]
      leaf_len
      refine iff3 (fun h => ?_) (fun h => ?_)
      · leaf_len
        exact ⟨rfl, by rw [h]; rfl⟩
      · leaf_len
        exact ⟨rfl, by rw [h]; rfl⟩
    · leaf_len
      exact ⟨rfl, rfl, rfl⟩
theorem lead_of_ok {k : Nat} {ts : List Nat} (h : Tb ts) (g : Lds ts tp) : callN pgP (k + 2) ix_lead_of [.lst (ts.map dn)] = .ok (.int ((((List.range ts.length).map fun s => (tp s).1).max?.getD 0 : Nat) : Int)) false .non := by
  refine Cl_is (go_lead_of ?_)
  have hle := h.le
  leaf_len
  refine Comp_map (as := List.range ts.length) (fi := dn) (fo := fun s => .int (((tp s).1 : Nat) : Int)) rfl rfl (line_le (by simp; omega)) ?_ ?_
  · leaf_len
    intro s hs
    have hs := List.mem_range.mp hs
    leaf_len
    exact ⟨rfl, rfl⟩
  · leaf_len
    refine bq_maxN (f := fun s => (tp s).1) (fun z => ?_) ?_
    · have := h.pos
      have := List.range_eq_nil.mp z
      omega
    leaf_len
    exact ⟨rfl, rfl, rfl⟩
theorem net_lead_ok {k : Nat} (hK : NetK n rs) (g : Lds (tb n rs) tp) : callN pgP (k + 3) ix_net_lead [netD n rs] = .ok (.int ((((List.range (2 ^ n)).map fun s => (tp s).1).max?.getD 0 : Nat) : Int)) false .non := by
  refine Cl_is (go_net_lead ?_)
  have hT := tb_Tb hK
  have h8 := hK.le8
  have hl8 := hK.l
  leaf_len
  refine Cl_ok (lead_of_ok hT g) ?_
  leaf_len
  rw [tb_len]
  exact ⟨rfl, rfl, rfl⟩
theorem common_ok {k a b : Nat} (hb : 0 < b) (h64 : b < 2 ^ 10) : callN pgP (k + 1) ix_common_multiple [.int (a : Nat), .int (b : Nat)] = .ok (.int ((Nat.lcm a b : Nat) : Int)) false .non := by
  refine Cl_is (go_common_multiple ?_)
  leaf_len
  refine S_whl (fun m ρ => ∃ x y, m = y ∧ Nat.gcd y x = Nat.gcd a b ∧ ρ = [.val (.int (a : Nat)), .val (.int (b : Nat)), .val (.int (x : Nat)), .val (.int (y : Nat))]) b ?_ ?_ ?_
  · exact ⟨a, b, rfl, Nat.gcd_comm _ _, rfl⟩
  · exact Nat.lt_trans h64 (show 2 ^ 10 < pgP.fuel by decide)
  · rintro m ρ ⟨x, y, rfl, hg, rfl⟩
    leaf_len
    refine iff3 (fun hz => ?_) (fun hz => ?_)
    · simp at hz
      have hy : 0 < m := by omega
      have hm := Nat.mod_lt x hy
      leaf_len
      refine ⟨x % m, hm, m, x % m, rfl, ?_, rfl⟩
      rw [← hg, Nat.gcd_rec m x]
    · simp at hz
      subst hz
      have hg' : x = Nat.gcd a b := by
        rw [← hg]
        simp
      subst hg'
      have hgp := Nat.gcd_pos_of_pos_right a hb
      have hgl : Nat.gcd a b ≤ b := Nat.le_of_dvd hb (Nat.gcd_dvd_right a b)
      leaf_len
      rw [lcm_div]
      exact ⟨rfl, rfl, rfl⟩
theorem period_ok {k : Nat} (hK : NetK n rs) (g : Lds (tb n rs) tp) : callN pgP (k + 3) ix_period [netD n rs] = .ok (.int ((lcmL ((rnds (tb n rs) tp).map List.length) : Nat) : Int)) false .non := by
  refine Cl_is (go_period ?_)
  have hT := tb_Tb hK
  have hR := rnds_Rds hT g
  have hle := hT.le
  have h8 := hK.le8
  have hl8 := hK.l
  leaf_len
  refine For_inv (as := rnds (tb n rs) tp) (fi := fun r => .tup (r.map dn)) (fun pre ρ => ∃ s2, ρ = [.val (netD n rs), .val (.int ((lcmL (pre.map List.length) : Nat) : Int)), s2] ∧ okQ s2) rfl (.inl rfl) ?_ ?_ ?_
  · exact ⟨_, rfl, trivial⟩
  · rintro pre r post e ρ ⟨s2, rfl, k2⟩
    have hr : r ∈ rnds (tb n rs) tp := by rw [e]; simp
    obtain ⟨m, p, hm, hp, rfl, l, _⟩ := hR.is r hr
    have hl : (rd (fT (tb n rs)) m 0 p).length = p := rd_len
    leaf_len
    refine Cl_ok (common_ok (by rw [hl]; exact l.pos) (by rw [hl]; omega)) ?_
    leaf_len
    refine ⟨.val (.tup ((rd (fT (tb n rs)) m 0 p).map dn)), ?_, trivial⟩
    simp [lcmL, List.foldl_append]
  · rintro ρ ⟨s2, rfl, k2⟩
    leaf_len
    exact ⟨rfl, rfl, rfl⟩
end
section
variable {n : Nat} {rs : List Nat} {tp : Nat → Nat × Nat}
theorem one_to_one_ok {k : Nat} {ts : List Nat} (h : Tb ts) : callN pgP (k + 1) ix_one_to_one [.lst (ts.map dn)] = .ok (.bl (decide ((ddF [] ts).length = ts.length))) false .non := by
  refine Cl_is (go_one_to_one ?_)
  have hle := h.le
  leaf_len
  refine DComp_map (as := ts) (fi := dn) (ko := dn) (v := .bl true) false rfl rfl (line_lt (by omega)) (fun _ _ => ⟨rfl, rfl⟩) ?_ ?_
  · leaf_len
    intro i hi
    leaf_len
    exact ⟨rfl, rfl⟩
  · leaf_len
    intro t' ws ht
    have e := putK_ddF (g := dn) dn_eqv ts []
    have e' : (ts.map dn).foldl putK [] = (ddF [] ts).map dn := e
    rw [e']
    leaf_len
    rw [List.length_map]
    exact ⟨rfl, rfl, rfl⟩
theorem is_one_to_one_ok {k : Nat} (hK : NetK n rs) : callN pgP (k + 3) ix_is_one_to_one [netD n rs] = .ok (.bl (decide ((ddF [] (tb n rs)).length = 2 ^ n))) false .non := by
  refine Cl_is (go_is_one_to_one ?_)
  have hT := tb_Tb hK
  have h8 := hK.le8
  have hl8 := hK.l
  leaf_len
  refine Cl_ok (one_to_one_ok hT) ?_
  leaf_len
  rw [tb_len]
  exact ⟨rfl, rfl, rfl⟩
/-- where each one stands, 0 for those that do not -/
def whr (N : Nat) (l : List Nat) : List Nat := (List.range N).map fun e => if e ∈ l then l.idxOf e else 0
theorem whr_put {N : Nat} {l : List Nat} {x : Nat} (hx : x ∉ l) : (whr N l).set x l.length = whr N (l ++ [x]) := by
  unfold whr
  refine List.ext_getElem (by simp) fun i h1 h2 => ?_
  simp only [List.length_set, List.length_map, List.length_range] at h1
  rw [List.getElem_set]
  simp only [List.getElem_map, List.getElem_range, List.mem_append, List.mem_singleton]
  by_cases e : x = i
  · subst e
    rw [if_pos rfl, if_pos (.inr rfl), List.idxOf_append, if_neg hx]
    simp
  · rw [if_neg e]
    by_cases c : i ∈ l
    · rw [if_pos c, if_pos (.inl c), List.idxOf_append, if_pos c]
    · rw [if_neg c, if_neg (fun z => z.elim c fun z => e z.symm)]
theorem net_back_ok {k : Nat} (hK : NetK n rs) (nd : (tb n rs).Nodup) : callN pgP (k + 3) ix_net_back [netD n rs] = .ok (netD n (nof n ((List.range (2 ^ n)).map fun e => (tb n rs).idxOf e))) false .non := by
  refine Cl_is (go_net_back ?_)
  have hT := tb_Tb hK
  have hle := hT.le
  have h8 := hK.le8
  have hl8 := hK.l
  leaf_len
  refine Cl_ok (one_to_one_ok hT) ?_
  rw [nodup_dd.mpr nd]
  leaf_len
  refine iffF (by simp) ?_
  leaf_len
  rw [zero_row, enumD_map, zip_range, List.map_map]
  have h0 : List.replicate (tb n rs).length 0 = whr (tb n rs).length [] := by
    unfold whr
    exact List.ext_getElem (by simp) fun i h1 h2 => by simp
  rw [h0]
  refine For_inv (as := List.range (tb n rs).length) (fun pre ρ => ∃ s3 s4, ρ = [.val (netD n rs), .val (.lst ((tb n rs).map dn)), .own 0 (.lst ((whr (tb n rs).length ((tb n rs).take pre.length)).map dn)), s3, s4] ∧ okQ s3 ∧ okQ s4) rfl (.inl rfl) ?_ ?_ ?_
  · exact ⟨_, _, rfl, trivial, trivial⟩
  · rintro pre i post e ρ ⟨s3, s4, rfl, k3, k4⟩
    obtain ⟨rfl, _, hi⟩ := split_rng e
    have hx : (tb n rs).getD pre.length 0 ∈ tb n rs := getD_mem hi
    have hlt : (tb n rs).getD pre.length 0 < (tb n rs).length := hT.cl _ hi
    have hnot : (tb n rs).getD pre.length 0 ∉ (tb n rs).take pre.length := fun z => by
      obtain ⟨j, h1, h2, h3⟩ := mem_takeD z
      have := nodup_getD nd h2 hi h3
      omega
    leaf_len
    refine six_lstM (l := whr (tb n rs).length ((tb n rs).take pre.length)) (f := dn) rfl (by decide) (by simpa [whr] using hlt) ?_
    leaf_len
    refine ⟨.val (dn pre.length), .val (dn ((tb n rs).getD pre.length 0)), ?_, trivial, trivial⟩
    have hl : ((tb n rs).take pre.length).length = pre.length := by simp; omega
    have := whr_put (N := (tb n rs).length) hnot
    rw [hl] at this
    rw [List.length_append, List.length_singleton, take_snoc hi, ← this]
  · rintro ρ ⟨s3, s4, rfl, k3, k4⟩
    rw [List.length_range, List.take_length]
    leaf_len
    refine Cl_ok (net_of_ok (.inl rfl) (by omega) (by simp [whr]; omega)) ?_
    leaf_len
    refine ⟨?_, rfl, rfl⟩
    congr 2
    unfold whr
    rw [← tb_len (n := n) (rs := rs)]
    refine List.map_congr_left fun e he => ?_
    rw [if_pos (all_in nd (fun x hx => ?_) (List.mem_range.mp he))]
    obtain ⟨j, hj, rfl⟩ := List.mem_iff_getElem.mp hx
    have := hT.cl j hj
    unfold fT at this
    rwa [List.getD_eq_getElem?_getD, List.getElem?_eq_getElem hj] at this
theorem net_back_no {k : Nat} (hK : NetK n rs) (nd : ¬ (tb n rs).Nodup) : callN pgP (k + 3) ix_net_back [netD n rs] = .err 6 [] := by
  refine Cl_erIs (go_net_back ?_)
  have hT := tb_Tb hK
  have h8 := hK.le8
  have hl8 := hK.l
  leaf_len
  refine Cl_ok (one_to_one_ok hT) ?_
  leaf_len
  refine iff3 (fun h => ?_) (fun h => ?_)
  · leaf_len
    exact ⟨rfl, rfl⟩
  · simp at h
    exact absurd (nodup_dd.mp h) nd
theorem basins_ok {k : Nat} (hK : NetK n rs) (g : Lds (tb n rs) tp) : callN pgP (k + 3) ix_basins [netD n rs] = .ok (.tup (((List.range (2 ^ n)).map fun s => (rnds (tb n rs) tp).idxOf (rnd1 (tb n rs) tp s)).map dn)) false .non := by
  refine Cl_is (go_basins ?_)
  have hT := tb_Tb hK
  have hR := rnds_Rds hT g
  have hle := hT.le
  have hRl := hR.le
  have h8 := hK.le8
  have hl8 := hK.l
  leaf_len
  rw [enumD_map]
  refine DComp_mapV (as := (rnds (tb n rs) tp).zipIdx) (fi := fun p => .tup [.int ((p.2 : Nat) : Int), .tup (p.1.map dn)]) (ko := fun p => .tup (p.1.map dn)) (vo := fun p => dn p.2) true rfl rfl (line_lt (by simp; omega)) ?_ ?_ ?_
  · intro p _
    refine ⟨rfl, ?_⟩
    show List.all _ keyA = true
    rw [List.all_map]
    exact List.all_eq_true.mpr fun _ _ => rfl
  · leaf_len
    intro p hp
    leaf_len
    exact ⟨rfl, rfl⟩
  · leaf_len
    intro t' ht
    have hpw : (rnds (tb n rs) tp).zipIdx.Pairwise fun a b : List Nat × Nat => (D.tup (a.1.map dn)).eqv (D.tup (b.1.map dn)) = false := by
      have h1 : (((rnds (tb n rs) tp).zipIdx).map Prod.fst).Pairwise (· ≠ ·) := by
        rw [List.zipIdx_map_fst]
        exact List.nodup_iff_pairwise_ne.mp hR.nd
      refine (List.pairwise_map.mp h1).imp fun {a b} ne => ?_
      rw [dns_eqv]
      exact decide_eq_false ne
    rw [puts_uniq (fun a _ => rfl) hpw]
    have hne : rnds (tb n rs) tp ≠ [] := fun z => by
      have := (mem_rnds g (rnd1 (tb n rs) tp 0)).mpr ⟨0, hT.pos, rfl⟩
      rw [z] at this
      exact nomatch this
    have ht' : t' = true := ht fun z => hne (by
      have := congrArg List.length z
      rw [List.length_zipIdx] at this
      exact List.length_eq_zero_iff.mp this)
    subst ht'
    simp only [List.nil_append]
    have h2 := two_le h8
    leaf_len
    rw [tb_len]
    refine Comp_map (as := List.range (2 ^ n)) (fi := dn) (fo := fun s => dn ((rnds (tb n rs) tp).idxOf (rnd1 (tb n rs) tp s))) rfl rfl (line_le (by rw [List.length_range]; omega)) ?_ ?_
    · leaf_len
      intro s hs
      have hs : s < (tb n rs).length := by rw [tb_len]; exact List.mem_range.mp hs
      leaf_len
      have hl := (g s hs).le hT hs
      have hpos := (g s hs).pos
      refine Cl_ok (turned_ok (fun z => ?_) (by rw [rd_len]; omega)) ?_
      · have := congrArg List.length z
        rw [rd_len] at this
        simp at this
        omega
      leaf_len
      have hin : rnd1 (tb n rs) tp s ∈ rnds (tb n rs) tp := (mem_rnds g _).mpr ⟨s, hs, rfl⟩
      have hix := List.idxOf_lt_length_of_mem hin
      have hmem : (rnd1 (tb n rs) tp s, (rnds (tb n rs) tp).idxOf (rnd1 (tb n rs) tp s)) ∈ (rnds (tb n rs) tp).zipIdx := by
        rw [List.mem_zipIdx_iff_getElem?]
        exact idx_at hin
      refine ix_dic (z := dn ((rnds (tb n rs) tp).idxOf (rnd1 (tb n rs) tp s))) ?_ (look_uniq (ko := fun p : List Nat × Nat => D.tup (p.1.map dn)) (vo := fun p : List Nat × Nat => dn p.2) hpw hmem (by rw [dns_eqv]; simp)) ?_
      · show List.all _ keyA = true
        rw [List.all_map]
        exact List.all_eq_true.mpr fun _ _ => rfl
      leaf_len
      exact ⟨rfl, rfl⟩
    · rw [show (List.range (2 ^ n)).map (fun s => dn ((rnds (tb n rs) tp).idxOf (rnd1 (tb n rs) tp s))) = ((List.range (2 ^ n)).map fun s => (rnds (tb n rs) tp).idxOf (rnd1 (tb n rs) tp s)).map dn by rw [List.map_map]; rfl]
      leaf_len
      exact ⟨rfl, rfl, rfl⟩
end
theorem law_road_ok {k t s : Nat} {ts : List Nat} (h : Tb ts) (hs : s < ts.length) (ht : t ≤ 1000000) : callN pgP (k + 1) ix_law_road [.lst (ts.map dn), .int (s : Nat), .int (t : Nat)] = .ok (.lst (((List.range (t + 1)).map (it (fT ts) s)).map dn)) true .non := by
  refine Cl_is (go_law_road ?_)
  leaf_len
  refine For_inv (as := List.range t) (fi := dn) (fun pre ρ => ∃ s4, ρ = [.val (.lst (ts.map dn)), .val (.int (s : Nat)), .val (.int (t : Nat)), .own 0 (.lst (((List.range (pre.length + 1)).map (it (fT ts) s)).map dn)), s4] ∧ okQ s4) rfl (.inl rfl) ?_ ?_ ?_
  · exact ⟨_, rfl, trivial⟩
  · rintro pre j post e ρ ⟨s4, rfl, k4⟩
    have hp := split_lt e
    simp at hp
    leaf_len
    refine ix_lastM last_rng ?_
    have hlt := it_lt h.cl hs pre.length
    leaf_len
    · exact line_lt (by simp; omega)
    refine ⟨.val (dn j), ?_, trivial⟩
    rw [List.length_append, List.length_singleton, it_snoc (L := pre.length + 1)]
    rfl
  · rintro ρ ⟨s4, rfl, k4⟩
    simp only [List.length_range]
    leaf_len
    exact ⟨rfl, rfl, rfl⟩
theorem law_lead_ok {k s : Nat} {ts : List Nat} {tp : Nat → Nat × Nat} (h : Tb ts) (g : Lds ts tp) (hs : s < ts.length) : callN pgP (k + 2) ix_law_lead [.lst (ts.map dn), .int (s : Nat)] = .ok (.lst [dn (tp s).1, dn (tp s).2]) true .non := by
  refine Cl_is (go_law_lead ?_)
  have hle := h.le
  have l := g s hs
  have hpos := l.pos
  have hl := l.le h hs
  leaf_len
  refine Cl_ok (law_road_ok h hs (by omega)) ?_
  leaf_len
  have at_ : ∀ (i : Nat), i ≤ 2 * ts.length → ((List.range (2 * ts.length + 1)).map (it (fT ts) s)).getD i 0 = it (fT ts) s i := fun i hi => getD_rng (by omega)
  refine For_inv (as := List.range (ts.length + 1)) (fi := dn) (fun pre ρ => pre.length ≤ (tp s).1 ∧ ∃ s3 s4, ρ = [.val (.lst (ts.map dn)), .val (.int (s : Nat)), .own 0 (.lst (((List.range (2 * ts.length + 1)).map (it (fT ts) s)).map dn)), s3, s4] ∧ okQ s3 ∧ okQ s4) rfl (.inl rfl) ?_ ?_ ?_
  · exact ⟨Nat.zero_le _, _, _, rfl, trivial, trivial⟩
  · rintro pre i post e ρ ⟨hi1, s3, s4, rfl, k3, k4⟩
    obtain ⟨rfl, _, hi⟩ := split_rng e
    leaf_len
    refine For_inv (as := List.range' 1 (ts.length + 1 - 1)) (fi := dn) (fun p2 ρ => (pre.length < (tp s).1 ∨ p2.length < (tp s).2) ∧ ∃ s4, ρ = [.val (.lst (ts.map dn)), .val (.int (s : Nat)), .own 0 (.lst (((List.range (2 * ts.length + 1)).map (it (fT ts) s)).map dn)), .val (dn pre.length), s4] ∧ okQ s4) rfl (.inl rfl) ?_ ?_ ?_
    · exact ⟨.inr hpos, _, rfl, k4⟩
    · rintro p2 j post2 e2 ρ ⟨hi2, s4, rfl, k4⟩
      have hj : j = p2.length + 1 ∧ j ≤ ts.length := by
        have hp := split_lt e2
        rw [List.length_range'] at hp
        have h1 : (List.range' 1 (ts.length + 1 - 1))[p2.length]? = some j := by rw [e2, List.getElem?_append_right (Nat.le_refl _)]; simp
        rw [List.getElem?_range' hp] at h1
        have := Option.some.inj h1
        omega
      obtain ⟨rfl, hj⟩ := hj
      leaf_len
      · simp
        omega
      leaf_len
      · simp
        omega
      leaf_len
      rw [at_ _ (by omega), at_ _ (by omega)]
      have key := l.eq_iff (i := pre.length) (j := pre.length + (p2.length + 1)) (by omega)
      rw [show pre.length + (p2.length + 1) - pre.length = p2.length + 1 by omega] at key
      refine iff3 (fun hz => ?_) (fun hz => ?_)
      · simp only [decide_eq_true_eq] at hz
        obtain ⟨q1, q2⟩ := key.mp hz
        leaf_len
        have e3 : pre.length = (tp s).1 := by omega
        have e4 : p2.length + 1 = (tp s).2 := by
          have := Nat.le_of_dvd (by omega) (Nat.dvd_of_mod_eq_zero q2)
          omega
        rw [e3, e4]
        exact ⟨rfl, rfl, rfl⟩
      · simp only [decide_eq_false_iff_not] at hz
        leaf_len
        refine ⟨?_, .val (dn (p2.length + 1)), rfl, trivial⟩
        rw [List.length_append, List.length_singleton]
        by_cases c : pre.length < (tp s).1
        · exact .inl c
        · refine .inr ?_
          have c2 := hi2.resolve_left c
          rcases Nat.lt_or_ge (p2.length + 1) (tp s).2 with c3 | c3
          · exact c3
          · have e4 : p2.length + 1 = (tp s).2 := by omega
            exact absurd (key.mpr ⟨by omega, by rw [e4]; exact Nat.mod_self _⟩) hz
    · rintro ρ ⟨hi2, s4, rfl, k4⟩
      leaf_len
      refine ⟨?_, .val (dn pre.length), s4, rfl, trivial, k4⟩
      rw [List.length_append, List.length_singleton]
      rw [List.length_range'] at hi2
      omega
  · rintro ρ ⟨hi1, s3, s4, rfl, k3, k4⟩
    rw [List.length_range] at hi1
    omega
theorem cut_mid {α : Type} (xs : List α) (a b : Nat) (h : a ≤ b) (hb : b ≤ xs.length) (hx : xs.length < 2 ^ 62) : cutL xs (some ((a : Nat) : Int)) (some ((b : Nat) : Int)) = (xs.drop a).take (b - a) := by
  have e : ∀ c : Nat, c ≤ xs.length → ∀ d, clip xs.length d (some ((c : Nat) : Int)) = c := fun c hc d => by
    show (if ((c : Nat) : Int) < 0 then max (((c : Nat) : Int) + (xs.length : Int)) 0 else min ((c : Nat) : Int) (xs.length : Int)).toNat = _
    rw [if_neg (by omega)]
    omega
  unfold cutL
  rw [e a (by omega), e b hb]
theorem law_round_ok {k s : Nat} {ts : List Nat} {tp : Nat → Nat × Nat} (h : Tb ts) (g : Lds ts tp) (hs : s < ts.length) : callN pgP (k + 3) ix_law_round [.lst (ts.map dn), .int (s : Nat)] = .ok (.tup ((rnd1 ts tp s).map dn)) false .non := by
  refine Cl_is (go_law_round ?_)
  have hle := h.le
  have l := g s hs
  have hpos := l.pos
  have hl := l.le h hs
  leaf_len
  refine Cl_ok (law_lead_ok h g hs) ?_
  leaf_len
  refine Cl_ok (law_road_ok h hs (by omega)) ?_
  leaf_len
  refine Slx_of rfl ?_
  rw [cut_mid _ _ _ (by omega) (by simp) (by simp; omega)]
  have er : ((((List.range ((tp s).1 + (tp s).2 + 1)).map (it (fT ts) s)).map dn).drop (tp s).1).take ((tp s).1 + (tp s).2 - (tp s).1) = (rd (fT ts) s (tp s).1 (tp s).2).map dn := by
    rw [← List.map_drop, ← List.map_take]
    congr 1
    refine List.ext_getElem (by simp [rd]; omega) fun i h1 h2 => ?_
    simp [rd]
  rw [er]
  have hc : (rd (fT ts) s (tp s).1 (tp s).2).length = (tp s).2 := rd_len
  unfold rnd1
  generalize rd (fT ts) s (tp s).1 (tp s).2 = c at hc ⊢
  have hne : c ≠ [] := fun z => by
    rw [z] at hc
    simp at hc
    omega
  obtain ⟨m, hm⟩ : ∃ m, c.min? = some m := by
    cases e : c.min? with
    | none => exact absurd (List.min?_eq_none_iff.mp e) hne
    | some m => exact ⟨m, rfl⟩
  have hmm := List.min?_mem hm
  have hlt : c.idxOf m < c.length := (List.getElem?_eq_some_iff.mp (idx_get hmm)).1
  leaf_len
  rw [show c.map (fun a => a) = c by simp, hm, Option.getD_some]
  refine bq_index rfl (fit_ints (fun a : Nat => a) c) (find_at hmm) ?_
  leaf_len
  refine Slx_of rfl ?_
  leaf_len
  refine Slx_of rfl ?_
  leaf_len
  all_goals rw [cut_from _ _ (by omega), cut_to _ _ (by omega)]
  · exact line_le (by simp; omega)
  refine ⟨?_, rfl, rfl⟩
  unfold trn
  rw [hm]
  simp
theorem law_multiple_ok {k : Nat} {ls : List Nat} (hl : ∀ x ∈ ls, 0 < x ∧ x ≤ 256) (hn : ls.length ≤ 256) : callN pgP (k + 1) ix_law_multiple [.lst (ls.map dn)] = .ok (.int ((lcmL ls : Nat) : Int)) false .non := by
  refine Cl_is (go_law_multiple ?_)
  leaf_len
  refine For_inv (as := ls) (fi := dn) (fun pre ρ => ∃ s2, ρ = [.val (.lst (ls.map dn)), .val (.int ((lcmL pre : Nat) : Int)), s2, .no] ∧ okQ s2) rfl (.inl rfl) ?_ ?_ ?_
  · exact ⟨_, rfl, trivial⟩
  · rintro pre x post e ρ ⟨s2, rfl, k2⟩
    have hx := hl x (by rw [e]; simp)
    have hpre : 0 < lcmL pre := (lcmF_le (by decide) fun y hy => (hl y (by rw [e]; simp [hy])).1).1
    leaf_len
    refine Comp_filter (as := List.range' 1 (x + 1 - 1)) (fi := dn) (fo := fun m => dn (lcmL pre * m)) (p := fun m => decide (lcmL pre * m % x = 0)) rfl rfl (line_le (by rw [List.length_range']; omega)) ?_ ?_
    · leaf_len
      intro m hm
      have hm : m < 2 ^ 64 := by
        rw [List.mem_range'_1] at hm
        omega
      leaf_len
      refine iff3 (fun h => ?_) (fun h => ?_)
      · leaf_len
        exact ⟨rfl, by rw [h]; rfl⟩
      · leaf_len
        exact ⟨rfl, by rw [h]; rfl⟩
    · leaf_len
      have hh := mult_head hpre hx.1
      rw [Nat.add_sub_cancel]
      refine ix_lst (k := 0) (d := dn (lcmL pre * (x / Nat.gcd (lcmL pre) x))) ?_ ?_
      · rw [List.getElem?_map, ← List.head?_eq_getElem?, hh]
        rfl
      leaf_len
      refine ⟨.val (dn x), ?_, trivial⟩
      rw [lcm_div2]
      simp [lcmL, List.foldl_append]
  · rintro ρ ⟨s2, rfl, k2⟩
    leaf_len
    exact ⟨rfl, rfl, rfl⟩
theorem max_one {l : List Nat} (hne : l ≠ []) (h : ∀ x ∈ l, 0 < x) : decide (l.max?.getD 0 = 1) = l.all fun x => decide (x = 1) := by
  obtain ⟨m, hm⟩ : ∃ m, l.max? = some m := by
    cases e : l.max? with
    | none => exact absurd (List.max?_eq_none_iff.mp e) hne
    | some m => exact ⟨m, rfl⟩
  have h1 := List.max?_mem hm
  have h2 : ∀ x ∈ l, x ≤ m := (List.max?_eq_some_iff.mp hm).2
  rw [hm, Option.getD_some, Bool.eq_iff_iff, decide_eq_true_eq, List.all_eq_true]
  constructor
  · intro e x hx
    have := h2 x hx
    have := h x hx
    exact decide_eq_true (by omega)
  · intro e
    simpa using e m h1
theorem nof_eq {n : Nat} {ts : List Nat} (h : ts.length = 2 ^ n) : ((List.range n).map fun i => ofB (2 ^ n) fun s => ts.getD s 0 / 2 ^ i % 2) = nof n ts := by
  unfold nof
  rw [h]
theorem law_flat_ok {k : Nat} {rows : List (List D)} (h : rows.flatten.length ≤ 1000000) : callN pgP (k + 1) ix_law_flat [.lst (rows.map .lst)] = .ok (.lst rows.flatten) true .non := by
  refine Cl_is (go_law_flat ?_)
  leaf_len
  refine For_inv (as := rows) (fi := .lst) (fun pre ρ => ∃ (s2 : Sl), ρ = [.val (.lst (rows.map .lst)), .own 0 (.lst pre.flatten), s2] ∧ okQ s2) rfl (.inl rfl) ?_ ?_ ?_
  · exact ⟨_, rfl, trivial⟩
  · rintro pre r post e ρ ⟨s2, rfl, k2⟩
    leaf_len
    refine mq_extend (line_le ?_) ?_
    · rw [e] at h
      simp at h ⊢
      omega
    · leaf_len
      refine ⟨.val (.lst r), ?_, trivial⟩
      simp
  · rintro ρ ⟨s2, rfl, k2⟩
    leaf_len
    exact ⟨rfl, rfl, rfl⟩
theorem law_pick_ok {k : Nat} (ds : List Nat) {l : List D} (h : l ≠ []) (hl : l.length ≤ 1000) : ∃ x, x ∈ l ∧ callN pgP (k + 2) ix_law_pick [.lst (ds.map dn), .lst l] = .ok x false (.lst (ds.dropLast.map dn)) := by
  refine Cl_ex (d := fun x => x) (io := fun _ => .lst (ds.dropLast.map dn)) (go_law_pick ?_)
  have hp : 0 < l.length := List.length_pos_iff.mpr h
  have hm := Nat.mod_lt (nx ds) hp
  leaf_len
  refine ix_lst (List.getElem?_eq_getElem hm) ?_
  leaf_len
  exact ⟨_, List.getElem_mem _, rfl, rfl, rfl⟩
/-- dict([(k, v) ..]) by keys of one kind -/
theorem puts_gen {α : Type} [DecidableEq α] {g : α → D} (t : Bool) (v : D) (hg : ∀ a b, (g a).eqv (g b) = decide (a = b)) (hk : ∀ a, tupK (g a) = t ∧ keyOk t (g a) = true) : ∀ (is acc : List α) (t0 : Bool) (ws : List D), (acc = [] ∨ t0 = t) → acc.length + is.length < sizeLine →
    ∃ (p : List D) (r : Bool × List D × List D), pairsD (is.map fun i => D.tup [g i, v]) = some p ∧ putsG t0 (acc.map g) ws p = some r ∧ r.2.1 = (ddF acc is).map g ∧ (is ≠ [] ∨ acc ≠ [] → r.1 = t)
  | [], acc, t0, ws, h, _ => ⟨[], _, rfl, rfl, rfl, fun z => h.resolve_left (z.resolve_left (fun y => y rfl))⟩
  | i :: is, acc, t0, ws, h, hz => by
    have ek : kindK t0 (acc.map g) (g i) = t := by
      unfold kindK
      rcases h with rfl | rfl
      · exact (hk i).1
      · split
        · exact (hk i).1
        · rfl
    have hm : ((acc.map g).any fun k => k.eqv (g i)) = decide (i ∈ acc) := by
      rw [List.any_map]
      induction acc with
      | nil => simp
      | cons a acc ih =>
        rw [List.any_cons, ih (by
          rcases h with h | h
          · cases h
          · exact .inr h) (by rw [List.length_cons] at hz; omega) (by
          unfold kindK
          rcases h with h | rfl
          · cases h
          · split
            · exact (hk i).1
            · rfl)]
        simp only [Function.comp, hg, List.mem_cons]
        by_cases e : a = i
        · subst e
          simp
        · have e' : ¬ i = a := fun z => e z.symm
          simp [e, e']
    have e1 : (putD (g i) v (acc.map g) ws).1 = (if i ∈ acc then acc else acc ++ [i]).map g := by
      rw [putD_fst]
      unfold putK
      rw [hm]
      by_cases c : i ∈ acc
      · simp [c]
      · simp [c]
    obtain ⟨p, r, g1, g2, g3, g4⟩ := puts_gen t v hg hk is (if i ∈ acc then acc else acc ++ [i]) t (putD (g i) v (acc.map g) ws).2 (.inr rfl) (by
      rw [List.length_cons] at hz
      split
      · omega
      · rw [List.length_append, List.length_singleton]
        omega)
    refine ⟨g i :: v :: p, r, ?_, ?_, ?_, fun _ => g4 (.inr fun z => ?_)⟩
    · rw [List.map_cons, pairsD, g1]
      rfl
    · rw [putsG, ek, if_pos ⟨(hk i).2, by rw [List.length_map]; rw [List.length_cons] at hz; omega⟩, e1]
      exact g2
    · rw [ddF_cons]
      exact g3
    · split at z
      · rename_i c
        rw [z] at c
        exact nomatch c
      · simp at z
theorem find_gen {α : Type} [BEq α] [LawfulBEq α] [DecidableEq α] {g : α → D} (hg : ∀ a b, (g a).eqv (g b) = decide (a = b)) {m : α} : ∀ {c : List α}, m ∈ c → findD (g m) (c.map g) = some (c.idxOf m)
  | [], h => nomatch h
  | a :: c, h => by
    rw [List.map_cons, findD, List.idxOf_cons, hg]
    by_cases e : a = m
    · subst e
      simp
    · have e2 : (a == m) = false := by simpa using e
      rw [e2, find_gen hg ((List.mem_cons.mp h).resolve_left fun z => e z.symm)]
      simp [e]
theorem keyT (r : List Nat) : tupK (D.tup (r.map dn)) = true ∧ keyOk true (D.tup (r.map dn)) = true := by
  refine ⟨rfl, ?_⟩
  show List.all _ keyA = true
  rw [List.all_map]
  exact List.all_eq_true.mpr fun _ _ => rfl
theorem cm_ninN {x : Nat} {l : List Nat} {sq : D} {K : Bool → Prop} (hs : sq = .lst (l.map dn) ∨ sq = .tup (l.map dn)) (h : K (!decide (x ∈ l))) : Cm2 .NotIn (some (dn x)) (some sq) K := by
  refine Cm2_of ?_ h
  show (inD (dn x) sq).map (!·) = _
  have e : inD (dn x) sq = some (decide (x ∈ l)) := by
    have f1 : fit (.lst (l.map dn)) = true := fit_ints (fun a : Nat => a) l
    rcases hs with rfl | rfl
    · show inL _ _ = _
      simp only [inL, f1, show fit (dn x) = true from rfl, Bool.and_self, if_true]
      rw [any_dn]
    · show inL _ _ = _
      simp only [inL, f1, show fit (dn x) = true from rfl, Bool.and_self, if_true]
      rw [any_dn]
  rw [e]
  rfl
theorem cm_inN {x : Nat} {l : List Nat} {sq : D} {K : Bool → Prop} (hs : sq = .lst (l.map dn) ∨ sq = .tup (l.map dn)) (h : K (decide (x ∈ l))) : Cm2 .In (some (dn x)) (some sq) K := by
  refine Cm2_of ?_ h
  show inD (dn x) sq = _
  have f1 : fit (.lst (l.map dn)) = true := fit_ints (fun a : Nat => a) l
  rcases hs with rfl | rfl
  · show inL _ _ = _
    simp only [inL, f1, show fit (dn x) = true from rfl, Bool.and_self, if_true]
    rw [any_dn]
  · show inL _ _ = _
    simp only [inL, f1, show fit (dn x) = true from rfl, Bool.and_self, if_true]
    rw [any_dn]
theorem _root_.PI.Rok.le {d : D} {n m k : Nat} (h : Rok d n k) (hm : n ≤ m) : Rok d m k := ⟨h.plain, h.dep, h.show_, Nat.le_trans h.sz hm⟩
theorem _root_.PI.Rok.up {d : D} {n k j : Nat} (h : Rok d n k) (hj : k ≤ j) : Rok d n j := ⟨h.plain, Nat.le_trans h.dep hj, h.show_, h.sz⟩
theorem _root_.PI.Roks.le {d : List D} {n m k : Nat} (h : Roks d n k) (hm : n ≤ m) : Roks d m k := ⟨h.plain, h.dep, h.show_, Nat.le_trans h.sz hm⟩
theorem roks_mapL {α : Type} {f : α → D} {as : List α} {n k L : Nat} (hl : as.length ≤ L) (h : ∀ a ∈ as, Rok (f a) n k) : Roks (as.map f) (L * (n + 2)) k := (roks_map h).le (Nat.mul_le_mul_right _ hl)
theorem rok_nats {l : List Nat} {L k : Nat} (hl : l.length ≤ L) (h : ∀ x ∈ l, x < 2 ^ 64) : Rok (.tup (l.map dn)) (L * 1923 + 4) (k + 1) := rok_tup ((roks_dn fun x hx => small_rok (h x hx)).le (Nat.mul_le_mul_right _ hl))
theorem rok_natsL {l : List Nat} {L k : Nat} (hl : l.length ≤ L) (h : ∀ x ∈ l, x < 2 ^ 64) : Rok (.lst (l.map dn)) (L * 1923 + 4) (k + 1) := rok_lst ((roks_dn fun x hx => small_rok (h x hx)).le (Nat.mul_le_mul_right _ hl))
theorem rok_net {n : Nat} {rs : List Nat} {k : Nat} (hn : n ≤ 8) (hl : rs.length ≤ 8) (h : ∀ x ∈ rs, x < 2 ^ 256) : Rok (netD n rs) 20000 (k + 2) := by
  have h1 : Roks (rs.map dn) (8 * 1923) k := (roks_dn fun x hx => Nat.lt_of_lt_of_le (h x hx) (Nat.pow_le_pow_right (by decide) (by decide))).le (Nat.mul_le_mul_right _ hl)
  exact (rok_tup (roks_cons (rok_nat (small_rok (by omega))) (roks_cons (rok_tup h1) roks_nil))).le (by omega)
theorem nof_len {n : Nat} {ts : List Nat} : (nof n ts).length = n := by simp [nof]
theorem nof_lt {n : Nat} {ts : List Nat} (h : ts.length ≤ 256) : ∀ x ∈ nof n ts, x < 2 ^ 256 := fun x hx => by
  obtain ⟨i, _, rfl⟩ := List.mem_map.mp hx
  exact Nat.lt_of_lt_of_le (ofB_lt fun s _ => Nat.mod_lt _ (by decide)) (Nat.pow_le_pow_right (by decide) h)
theorem neg_row (n : Nat) : D.tup (List.replicate n [D.int (-((1 : Nat) : Int))]).flatten = iT (List.replicate n (-1)) := by
  unfold iT
  rw [List.map_replicate]
  congr 1
  induction n with
  | zero => rfl
  | succ n ih => rw [List.replicate_succ, List.flatten_cons, ih, List.replicate_succ]; rfl
theorem neg_bad {n : Nat} (h : 0 < n) : isNet n (List.replicate n (-1)) = false := by
  unfold isNet
  cases n with
  | zero => omega
  | succ m => simp [List.replicate_succ]
/-- [s] * m -/
theorem rep_same {m : Nat} {s : Str} {K : Bool → Prop} (hs : (D.str s).plain = true) (h : K true) : Cm2 .Eq (some (.lst (List.replicate m (.str s)))) (some (.lst (List.replicate m [D.str s]).flatten)) K := by
  refine cm_same (congrArg D.lst ?_) rfl (rok_lst (k := 59) (roks_rep (rok_str hs))) h
  induction m with
  | zero => rfl
  | succ n ih => rw [List.replicate_succ, List.replicate_succ, List.flatten_cons, ← ih]; rfl
theorem ask_0 {k : Nat} {x1 x2 x3 d : D} {fr : Bool} (h : callN pgP (k + 5) ix_rounds [x1] = .ok d fr .non) : callN pgP (k + 6) ix_law_asked [.int ((0 : Nat) : Int), x1, x2, x3] = .ok d fr .non := by
  refine Cl_is (go_law_asked ?_)
  leaf_len
  refine ⟨_, rfl, ?_⟩
  leaf_len
  refine Cl_ok h ?_
  cases fr <;> leaf_len <;> exact ⟨rfl, rfl, rfl⟩
theorem ase_0 {k c : Nat} {x1 x2 x3 d : D} (h : callN pgP (k + 5) ix_rounds [x1] = .err c []) (hc : errT[c]? = some d) : callN pgP (k + 6) ix_law_asked [.int ((0 : Nat) : Int), x1, x2, x3] = .ok d false .non := by
  refine Cl_is (go_law_asked ?_)
  leaf_len
  refine ⟨_, rfl, ?_⟩
  leaf_len
  refine Cl_er h ?_
  refine kch hc fun ρ => ?_
  leaf_len
  exact ⟨rfl, rfl, rfl⟩
theorem rounds_bad {k n : Nat} {rs : List Int} (hl : rs.length ≤ 1000) (h : isNet n rs = false) : callN pgP (k + 4) ix_rounds [netI n rs] = .err 1 [] := by
  refine Cl_erIs (go_rounds ?_)
  leaf_len
  exact ⟨rfl, rfl⟩
theorem ask_1 {k : Nat} {x1 x2 x3 d : D} {fr : Bool} (h : callN pgP (k + 5) ix_basins [x1] = .ok d fr .non) : callN pgP (k + 6) ix_law_asked [.int ((1 : Nat) : Int), x1, x2, x3] = .ok d fr .non := by
  refine Cl_is (go_law_asked ?_)
  leaf_len
  refine ⟨_, rfl, ?_⟩
  leaf_len
  refine Cl_ok h ?_
  cases fr <;> leaf_len <;> exact ⟨rfl, rfl, rfl⟩
theorem ase_1 {k c : Nat} {x1 x2 x3 d : D} (h : callN pgP (k + 5) ix_basins [x1] = .err c []) (hc : errT[c]? = some d) : callN pgP (k + 6) ix_law_asked [.int ((1 : Nat) : Int), x1, x2, x3] = .ok d false .non := by
  refine Cl_is (go_law_asked ?_)
  leaf_len
  refine ⟨_, rfl, ?_⟩
  leaf_len
  refine Cl_er h ?_
  refine kch hc fun ρ => ?_
  leaf_len
  exact ⟨rfl, rfl, rfl⟩
theorem basins_bad {k n : Nat} {rs : List Int} (hl : rs.length ≤ 1000) (h : isNet n rs = false) : callN pgP (k + 4) ix_basins [netI n rs] = .err 1 [] := by
  refine Cl_erIs (go_basins ?_)
  leaf_len
  exact ⟨rfl, rfl⟩
theorem ask_2 {k : Nat} {x1 x2 x3 d : D} {fr : Bool} (h : callN pgP (k + 5) ix_unreached [x1] = .ok d fr .non) : callN pgP (k + 6) ix_law_asked [.int ((2 : Nat) : Int), x1, x2, x3] = .ok d fr .non := by
  refine Cl_is (go_law_asked ?_)
  leaf_len
  refine ⟨_, rfl, ?_⟩
  leaf_len
  refine Cl_ok h ?_
  cases fr <;> leaf_len <;> exact ⟨rfl, rfl, rfl⟩
theorem ase_2 {k c : Nat} {x1 x2 x3 d : D} (h : callN pgP (k + 5) ix_unreached [x1] = .err c []) (hc : errT[c]? = some d) : callN pgP (k + 6) ix_law_asked [.int ((2 : Nat) : Int), x1, x2, x3] = .ok d false .non := by
  refine Cl_is (go_law_asked ?_)
  leaf_len
  refine ⟨_, rfl, ?_⟩
  leaf_len
  refine Cl_er h ?_
  refine kch hc fun ρ => ?_
  leaf_len
  exact ⟨rfl, rfl, rfl⟩
theorem unreached_bad {k n : Nat} {rs : List Int} (hl : rs.length ≤ 1000) (h : isNet n rs = false) : callN pgP (k + 4) ix_unreached [netI n rs] = .err 1 [] := by
  refine Cl_erIs (go_unreached ?_)
  leaf_len
  exact ⟨rfl, rfl⟩
theorem ask_3 {k : Nat} {x1 x2 x3 d : D} {fr : Bool} (h : callN pgP (k + 5) ix_net_lead [x1] = .ok d fr .non) : callN pgP (k + 6) ix_law_asked [.int ((3 : Nat) : Int), x1, x2, x3] = .ok d fr .non := by
  refine Cl_is (go_law_asked ?_)
  leaf_len
  refine ⟨_, rfl, ?_⟩
  leaf_len
  refine Cl_ok h ?_
  cases fr <;> leaf_len <;> exact ⟨rfl, rfl, rfl⟩
theorem ase_3 {k c : Nat} {x1 x2 x3 d : D} (h : callN pgP (k + 5) ix_net_lead [x1] = .err c []) (hc : errT[c]? = some d) : callN pgP (k + 6) ix_law_asked [.int ((3 : Nat) : Int), x1, x2, x3] = .ok d false .non := by
  refine Cl_is (go_law_asked ?_)
  leaf_len
  refine ⟨_, rfl, ?_⟩
  leaf_len
  refine Cl_er h ?_
  refine kch hc fun ρ => ?_
  leaf_len
  exact ⟨rfl, rfl, rfl⟩
theorem net_lead_bad {k n : Nat} {rs : List Int} (hl : rs.length ≤ 1000) (h : isNet n rs = false) : callN pgP (k + 4) ix_net_lead [netI n rs] = .err 1 [] := by
  refine Cl_erIs (go_net_lead ?_)
  leaf_len
  exact ⟨rfl, rfl⟩
theorem ask_4 {k : Nat} {x1 x2 x3 d : D} {fr : Bool} (h : callN pgP (k + 5) ix_period [x1] = .ok d fr .non) : callN pgP (k + 6) ix_law_asked [.int ((4 : Nat) : Int), x1, x2, x3] = .ok d fr .non := by
  refine Cl_is (go_law_asked ?_)
  leaf_len
  refine ⟨_, rfl, ?_⟩
  leaf_len
  refine Cl_ok h ?_
  cases fr <;> leaf_len <;> exact ⟨rfl, rfl, rfl⟩
theorem ase_4 {k c : Nat} {x1 x2 x3 d : D} (h : callN pgP (k + 5) ix_period [x1] = .err c []) (hc : errT[c]? = some d) : callN pgP (k + 6) ix_law_asked [.int ((4 : Nat) : Int), x1, x2, x3] = .ok d false .non := by
  refine Cl_is (go_law_asked ?_)
  leaf_len
  refine ⟨_, rfl, ?_⟩
  leaf_len
  refine Cl_er h ?_
  refine kch hc fun ρ => ?_
  leaf_len
  exact ⟨rfl, rfl, rfl⟩
theorem period_bad {k n : Nat} {rs : List Int} (hl : rs.length ≤ 1000) (h : isNet n rs = false) : callN pgP (k + 4) ix_period [netI n rs] = .err 1 [] := by
  refine Cl_erIs (go_period ?_)
  leaf_len
  exact ⟨rfl, rfl⟩
theorem ask_5 {k : Nat} {x1 x2 x3 d : D} {fr : Bool} (h : callN pgP (k + 5) ix_is_one_to_one [x1] = .ok d fr .non) : callN pgP (k + 6) ix_law_asked [.int ((5 : Nat) : Int), x1, x2, x3] = .ok d fr .non := by
  refine Cl_is (go_law_asked ?_)
  leaf_len
  refine ⟨_, rfl, ?_⟩
  leaf_len
  refine Cl_ok h ?_
  cases fr <;> leaf_len <;> exact ⟨rfl, rfl, rfl⟩
theorem ase_5 {k c : Nat} {x1 x2 x3 d : D} (h : callN pgP (k + 5) ix_is_one_to_one [x1] = .err c []) (hc : errT[c]? = some d) : callN pgP (k + 6) ix_law_asked [.int ((5 : Nat) : Int), x1, x2, x3] = .ok d false .non := by
  refine Cl_is (go_law_asked ?_)
  leaf_len
  refine ⟨_, rfl, ?_⟩
  leaf_len
  refine Cl_er h ?_
  refine kch hc fun ρ => ?_
  leaf_len
  exact ⟨rfl, rfl, rfl⟩
theorem is_one_to_one_bad {k n : Nat} {rs : List Int} (hl : rs.length ≤ 1000) (h : isNet n rs = false) : callN pgP (k + 4) ix_is_one_to_one [netI n rs] = .err 1 [] := by
  refine Cl_erIs (go_is_one_to_one ?_)
  leaf_len
  exact ⟨rfl, rfl⟩
theorem ask_6 {k : Nat} {x1 x2 x3 d : D} {fr : Bool} (h : callN pgP (k + 5) ix_net_back [x1] = .ok d fr .non) : callN pgP (k + 6) ix_law_asked [.int ((6 : Nat) : Int), x1, x2, x3] = .ok d fr .non := by
  refine Cl_is (go_law_asked ?_)
  leaf_len
  refine ⟨_, rfl, ?_⟩
  leaf_len
  refine Cl_ok h ?_
  cases fr <;> leaf_len <;> exact ⟨rfl, rfl, rfl⟩
theorem ase_6 {k c : Nat} {x1 x2 x3 d : D} (h : callN pgP (k + 5) ix_net_back [x1] = .err c []) (hc : errT[c]? = some d) : callN pgP (k + 6) ix_law_asked [.int ((6 : Nat) : Int), x1, x2, x3] = .ok d false .non := by
  refine Cl_is (go_law_asked ?_)
  leaf_len
  refine ⟨_, rfl, ?_⟩
  leaf_len
  refine Cl_er h ?_
  refine kch hc fun ρ => ?_
  leaf_len
  exact ⟨rfl, rfl, rfl⟩
theorem net_back_bad {k n : Nat} {rs : List Int} (hl : rs.length ≤ 1000) (h : isNet n rs = false) : callN pgP (k + 4) ix_net_back [netI n rs] = .err 1 [] := by
  refine Cl_erIs (go_net_back ?_)
  leaf_len
  exact ⟨rfl, rfl⟩
theorem ask_7 {k : Nat} {x1 x2 x3 d : D} {fr : Bool} (h : callN pgP (k + 5) ix_settles [x1] = .ok d fr .non) : callN pgP (k + 6) ix_law_asked [.int ((7 : Nat) : Int), x1, x2, x3] = .ok d fr .non := by
  refine Cl_is (go_law_asked ?_)
  leaf_len
  refine ⟨_, rfl, ?_⟩
  leaf_len
  refine Cl_ok h ?_
  cases fr <;> leaf_len <;> exact ⟨rfl, rfl, rfl⟩
theorem ase_7 {k c : Nat} {x1 x2 x3 d : D} (h : callN pgP (k + 5) ix_settles [x1] = .err c []) (hc : errT[c]? = some d) : callN pgP (k + 6) ix_law_asked [.int ((7 : Nat) : Int), x1, x2, x3] = .ok d false .non := by
  refine Cl_is (go_law_asked ?_)
  leaf_len
  refine ⟨_, rfl, ?_⟩
  leaf_len
  refine Cl_er h ?_
  refine kch hc fun ρ => ?_
  leaf_len
  exact ⟨rfl, rfl, rfl⟩
theorem settles_bad {k n : Nat} {rs : List Int} (hl : rs.length ≤ 1000) (h : isNet n rs = false) : callN pgP (k + 4) ix_settles [netI n rs] = .err 1 [] := by
  refine Cl_erIs (go_settles ?_)
  leaf_len
  exact ⟨rfl, rfl⟩
theorem ask_8 {k : Nat} {x1 x2 x3 d : D} {fr : Bool} (h : callN pgP (k + 5) ix_has_one_end [x1] = .ok d fr .non) : callN pgP (k + 6) ix_law_asked [.int ((8 : Nat) : Int), x1, x2, x3] = .ok d fr .non := by
  refine Cl_is (go_law_asked ?_)
  leaf_len
  refine ⟨_, rfl, ?_⟩
  leaf_len
  refine Cl_ok h ?_
  cases fr <;> leaf_len <;> exact ⟨rfl, rfl, rfl⟩
theorem ase_8 {k c : Nat} {x1 x2 x3 d : D} (h : callN pgP (k + 5) ix_has_one_end [x1] = .err c []) (hc : errT[c]? = some d) : callN pgP (k + 6) ix_law_asked [.int ((8 : Nat) : Int), x1, x2, x3] = .ok d false .non := by
  refine Cl_is (go_law_asked ?_)
  leaf_len
  refine ⟨_, rfl, ?_⟩
  leaf_len
  refine Cl_er h ?_
  refine kch hc fun ρ => ?_
  leaf_len
  exact ⟨rfl, rfl, rfl⟩
theorem has_one_end_bad {k n : Nat} {rs : List Int} (hl : rs.length ≤ 1000) (h : isNet n rs = false) : callN pgP (k + 4) ix_has_one_end [netI n rs] = .err 1 [] := by
  refine Cl_erIs (go_has_one_end ?_)
  leaf_len
  exact ⟨rfl, rfl⟩
theorem ask_9 {k : Nat} {x1 x2 x3 d : D} {fr : Bool} (h : callN pgP (k + 5) ix_lead [x1, x2] = .ok d fr .non) : callN pgP (k + 6) ix_law_asked [.int ((9 : Nat) : Int), x1, x2, x3] = .ok d fr .non := by
  refine Cl_is (go_law_asked ?_)
  leaf_len
  refine ⟨_, rfl, ?_⟩
  leaf_len
  refine Cl_ok h ?_
  cases fr <;> leaf_len <;> exact ⟨rfl, rfl, rfl⟩
theorem ase_9 {k c : Nat} {x1 x2 x3 d : D} (h : callN pgP (k + 5) ix_lead [x1, x2] = .err c []) (hc : errT[c]? = some d) : callN pgP (k + 6) ix_law_asked [.int ((9 : Nat) : Int), x1, x2, x3] = .ok d false .non := by
  refine Cl_is (go_law_asked ?_)
  leaf_len
  refine ⟨_, rfl, ?_⟩
  leaf_len
  refine Cl_er h ?_
  refine kch hc fun ρ => ?_
  leaf_len
  exact ⟨rfl, rfl, rfl⟩
theorem lead_bad {k n : Nat} {y1 : D} {rs : List Int} (hl : rs.length ≤ 1000) (h : isNet n rs = false) : callN pgP (k + 4) ix_lead [netI n rs, y1] = .err 1 [] := by
  refine Cl_erIs (go_lead ?_)
  leaf_len
  exact ⟨rfl, rfl⟩
theorem ask_10 {k : Nat} {x1 x2 x3 d : D} {fr : Bool} (h : callN pgP (k + 5) ix_length [x1, x2] = .ok d fr .non) : callN pgP (k + 6) ix_law_asked [.int ((10 : Nat) : Int), x1, x2, x3] = .ok d fr .non := by
  refine Cl_is (go_law_asked ?_)
  leaf_len
  refine ⟨_, rfl, ?_⟩
  leaf_len
  refine Cl_ok h ?_
  cases fr <;> leaf_len <;> exact ⟨rfl, rfl, rfl⟩
theorem ase_10 {k c : Nat} {x1 x2 x3 d : D} (h : callN pgP (k + 5) ix_length [x1, x2] = .err c []) (hc : errT[c]? = some d) : callN pgP (k + 6) ix_law_asked [.int ((10 : Nat) : Int), x1, x2, x3] = .ok d false .non := by
  refine Cl_is (go_law_asked ?_)
  leaf_len
  refine ⟨_, rfl, ?_⟩
  leaf_len
  refine Cl_er h ?_
  refine kch hc fun ρ => ?_
  leaf_len
  exact ⟨rfl, rfl, rfl⟩
theorem length_bad {k n : Nat} {y1 : D} {rs : List Int} (hl : rs.length ≤ 1000) (h : isNet n rs = false) : callN pgP (k + 4) ix_length [netI n rs, y1] = .err 1 [] := by
  refine Cl_erIs (go_length ?_)
  leaf_len
  exact ⟨rfl, rfl⟩
theorem ask_11 {k : Nat} {x1 x2 x3 d : D} {fr : Bool} (h : callN pgP (k + 5) ix_power [x1, x2] = .ok d fr .non) : callN pgP (k + 6) ix_law_asked [.int ((11 : Nat) : Int), x1, x2, x3] = .ok d fr .non := by
  refine Cl_is (go_law_asked ?_)
  leaf_len
  refine ⟨_, rfl, ?_⟩
  leaf_len
  refine Cl_ok h ?_
  cases fr <;> leaf_len <;> exact ⟨rfl, rfl, rfl⟩
theorem ase_11 {k c : Nat} {x1 x2 x3 d : D} (h : callN pgP (k + 5) ix_power [x1, x2] = .err c []) (hc : errT[c]? = some d) : callN pgP (k + 6) ix_law_asked [.int ((11 : Nat) : Int), x1, x2, x3] = .ok d false .non := by
  refine Cl_is (go_law_asked ?_)
  leaf_len
  refine ⟨_, rfl, ?_⟩
  leaf_len
  refine Cl_er h ?_
  refine kch hc fun ρ => ?_
  leaf_len
  exact ⟨rfl, rfl, rfl⟩
theorem power_bad {k n : Nat} {y1 : D} {rs : List Int} (hl : rs.length ≤ 1000) (h : isNet n rs = false) : callN pgP (k + 4) ix_power [netI n rs, y1] = .err 1 [] := by
  refine Cl_erIs (go_power ?_)
  leaf_len
  exact ⟨rfl, rfl⟩
theorem ask_12 {k : Nat} {x1 x2 x3 d : D} {fr : Bool} (h : callN pgP (k + 5) ix_road [x1, x2, x3] = .ok d fr .non) : callN pgP (k + 6) ix_law_asked [.int ((12 : Nat) : Int), x1, x2, x3] = .ok d fr .non := by
  refine Cl_is (go_law_asked ?_)
  leaf_len
  refine ⟨_, rfl, ?_⟩
  leaf_len
  refine Cl_ok h ?_
  cases fr <;> leaf_len <;> exact ⟨rfl, rfl, rfl⟩
theorem ase_12 {k c : Nat} {x1 x2 x3 d : D} (h : callN pgP (k + 5) ix_road [x1, x2, x3] = .err c []) (hc : errT[c]? = some d) : callN pgP (k + 6) ix_law_asked [.int ((12 : Nat) : Int), x1, x2, x3] = .ok d false .non := by
  refine Cl_is (go_law_asked ?_)
  leaf_len
  refine ⟨_, rfl, ?_⟩
  leaf_len
  refine Cl_er h ?_
  refine kch hc fun ρ => ?_
  leaf_len
  exact ⟨rfl, rfl, rfl⟩
theorem road_bad {k n : Nat} {y1 y2 : D} {rs : List Int} (hl : rs.length ≤ 1000) (h : isNet n rs = false) : callN pgP (k + 4) ix_road [netI n rs, y1, y2] = .err 1 [] := by
  refine Cl_erIs (go_road ?_)
  leaf_len
  exact ⟨rfl, rfl⟩
theorem ask_13 {k : Nat} {x1 x2 x3 d : D} {fr : Bool} (h : callN pgP (k + 5) ix_behind [x1, x2, x3] = .ok d fr .non) : callN pgP (k + 6) ix_law_asked [.int ((13 : Nat) : Int), x1, x2, x3] = .ok d fr .non := by
  refine Cl_is (go_law_asked ?_)
  leaf_len
  refine ⟨_, rfl, ?_⟩
  leaf_len
  refine Cl_ok h ?_
  cases fr <;> leaf_len <;> exact ⟨rfl, rfl, rfl⟩
theorem ase_13 {k c : Nat} {x1 x2 x3 d : D} (h : callN pgP (k + 5) ix_behind [x1, x2, x3] = .err c []) (hc : errT[c]? = some d) : callN pgP (k + 6) ix_law_asked [.int ((13 : Nat) : Int), x1, x2, x3] = .ok d false .non := by
  refine Cl_is (go_law_asked ?_)
  leaf_len
  refine ⟨_, rfl, ?_⟩
  leaf_len
  refine Cl_er h ?_
  refine kch hc fun ρ => ?_
  leaf_len
  exact ⟨rfl, rfl, rfl⟩
theorem behind_bad {k n : Nat} {y1 y2 : D} {rs : List Int} (hl : rs.length ≤ 1000) (h : isNet n rs = false) : callN pgP (k + 4) ix_behind [netI n rs, y1, y2] = .err 1 [] := by
  refine Cl_erIs (go_behind ?_)
  leaf_len
  exact ⟨rfl, rfl⟩
theorem ask_14 {k : Nat} {x1 x2 x3 d : D} {fr : Bool} (h : callN pgP (k + 5) ix_leading_to [x1, x2, x3] = .ok d fr .non) : callN pgP (k + 6) ix_law_asked [.int ((14 : Nat) : Int), x1, x2, x3] = .ok d fr .non := by
  refine Cl_is (go_law_asked ?_)
  leaf_len
  refine ⟨_, rfl, ?_⟩
  leaf_len
  refine Cl_ok h ?_
  cases fr <;> leaf_len <;> exact ⟨rfl, rfl, rfl⟩
theorem ase_14 {k c : Nat} {x1 x2 x3 d : D} (h : callN pgP (k + 5) ix_leading_to [x1, x2, x3] = .err c []) (hc : errT[c]? = some d) : callN pgP (k + 6) ix_law_asked [.int ((14 : Nat) : Int), x1, x2, x3] = .ok d false .non := by
  refine Cl_is (go_law_asked ?_)
  leaf_len
  refine ⟨_, rfl, ?_⟩
  leaf_len
  refine Cl_er h ?_
  refine kch hc fun ρ => ?_
  leaf_len
  exact ⟨rfl, rfl, rfl⟩
theorem leading_to_bad {k n : Nat} {y1 y2 : D} {rs : List Int} (hl : rs.length ≤ 1000) (h : isNet n rs = false) : callN pgP (k + 4) ix_leading_to [netI n rs, y1, y2] = .err 1 [] := by
  refine Cl_erIs (go_leading_to ?_)
  leaf_len
  exact ⟨rfl, rfl⟩
section
variable {n : Nat} {rs : List Nat}
theorem road_no {k : Nat} {s : Int} {y : D} (hK : NetK n rs) (hs : s < 0 ∨ ((2 ^ n : Nat) : Int) ≤ s) : callN pgP (k + 4) ix_road [netD n rs, .int s, y] = .err 2 [] := by
  refine Cl_erIs (go_road ?_)
  leaf_len
  exact ⟨rfl, rfl⟩
theorem behind_no {k : Nat} {s : Int} {y : D} (hK : NetK n rs) (hs : s < 0 ∨ ((2 ^ n : Nat) : Int) ≤ s) : callN pgP (k + 4) ix_behind [netD n rs, .int s, y] = .err 2 [] := by
  refine Cl_erIs (go_behind ?_)
  leaf_len
  exact ⟨rfl, rfl⟩
theorem leading_to_no {k : Nat} {s : Int} {y : D} (hK : NetK n rs) (hs : s < 0 ∨ ((2 ^ n : Nat) : Int) ≤ s) : callN pgP (k + 4) ix_leading_to [netD n rs, .int s, y] = .err 2 [] := by
  refine Cl_erIs (go_leading_to ?_)
  leaf_len
  exact ⟨rfl, rfl⟩
theorem road_num {k s : Nat} {t : Int} (hK : NetK n rs) (hs : s < 2 ^ n) (ht : t < 0 ∨ ((1000 : Nat) : Int) < t) : callN pgP (k + 4) ix_road [netD n rs, .int (s : Nat), .int t] = .err 5 [] := by
  refine Cl_erIs (go_road ?_)
  leaf_len
  refine Cl_er (check_steps_no ht) ?_
  exact ⟨rfl, rfl⟩
theorem behind_num {k s : Nat} {t : Int} (hK : NetK n rs) (hs : s < 2 ^ n) (ht : t < 0 ∨ ((10 ^ 30 : Nat) : Int) < t) : callN pgP (k + 4) ix_behind [netD n rs, .int (s : Nat), .int t] = .err 5 [] := by
  refine Cl_erIs (go_behind ?_)
  leaf_len
  refine Cl_er (check_steps_no ht) ?_
  exact ⟨rfl, rfl⟩
theorem leading_to_num {k s : Nat} {t : Int} (hK : NetK n rs) (hs : s < 2 ^ n) (ht : t < 0 ∨ ((10 ^ 30 : Nat) : Int) < t) : callN pgP (k + 4) ix_leading_to [netD n rs, .int (s : Nat), .int t] = .err 5 [] := by
  refine Cl_erIs (go_leading_to ?_)
  leaf_len
  refine Cl_er (check_steps_no ht) ?_
  exact ⟨rfl, rfl⟩
theorem power_num {k : Nat} {t : Int} (hK : NetK n rs) (ht : t < 0 ∨ ((10 ^ 30 : Nat) : Int) < t) : callN pgP (k + 4) ix_power [netD n rs, .int t] = .err 5 [] := by
  refine Cl_erIs (go_power ?_)
  leaf_len
  refine Cl_er (check_steps_no ht) ?_
  exact ⟨rfl, rfl⟩
end
theorem Ld.dec {f : Nat → Nat} {s t p : Nat} (h1 : 0 < p) (h2 : ((List.range (t + p)).map (it f s)).Nodup) (h3 : it f s (t + p) = it f s t) : Ld f s t p := ⟨h1, fun i j hi hj e => by
  refine nodup_getD h2 (by simpa using hi) (by simpa using hj) ?_
  rw [getD_rng hi, getD_rng hj]
  exact e, h3⟩
def tpA : Nat → Nat × Nat := fun _ => (0, 4)
def tpB : Nat → Nat × Nat := fun s => ([1, 0, 0, 1].getD s 0, 1)
theorem ldA : Lds (tb 2 [12, 5]) tpA := by
  intro s hs
  have hs : s < 4 := hs
  have : s = 0 ∨ s = 1 ∨ s = 2 ∨ s = 3 := by omega
  rcases this with rfl | rfl | rfl | rfl <;> exact Ld.dec (by decide +kernel) (by decide +kernel) (by decide +kernel)
theorem ldB : Lds (tb 2 [10, 5]) tpB := by
  intro s hs
  have hs : s < 4 := hs
  have : s = 0 ∨ s = 1 ∨ s = 2 ∨ s = 3 := by omega
  rcases this with rfl | rfl | rfl | rfl <;> exact Ld.dec (by decide +kernel) (by decide +kernel) (by decide +kernel)
theorem net2 (a b : Nat) (ha : a < 16) (hb : b < 16) : NetK 2 [a, b] := ⟨⟨by decide, rfl, fun r hr => by simp at hr; rcases hr with rfl | rfl <;> assumption⟩, by decide⟩
theorem nA : NetK 2 [12, 5] := net2 12 5 (by decide) (by decide)
theorem nB : NetK 2 [10, 5] := net2 10 5 (by decide) (by decide)
theorem cA {k : Nat} : callN pgP (k + 3) ix_rounds [netD 2 [12, 5]] = .ok (.lst [.tup [dn 0, dn 2, dn 3, dn 1]]) true .non := by
  rw [rounds_ok nA (tb_Tb nA) ldA, show rnds (tb 2 [12, 5]) tpA = [[0, 2, 3, 1]] by decide +kernel]
  rfl
theorem cB {k : Nat} : callN pgP (k + 3) ix_rounds [netD 2 [10, 5]] = .ok (.lst [.tup [dn 1], .tup [dn 2]]) true .non := by
  rw [rounds_ok nB (tb_Tb nB) ldB, show rnds (tb 2 [10, 5]) tpB = [[1], [2]] by decide +kernel]
  rfl
theorem cP {k : Nat} : callN pgP (k + 3) ix_period [netD 2 [12, 5]] = .ok (dn 4) false .non := by
  rw [period_ok nA ldA, show lcmL ((rnds (tb 2 [12, 5]) tpA).map List.length) = 4 by decide +kernel]
theorem cL {k : Nat} : callN pgP (k + 3) ix_net_lead [netD 2 [10, 5]] = .ok (dn 1) false .non := by
  rw [net_lead_ok nB ldB, show ((List.range (2 ^ 2)).map fun s => (tpB s).1).max?.getD 0 = 1 by decide +kernel]
theorem cS {k : Nat} : callN pgP (k + 3) ix_settles [netD 2 [10, 5]] = .ok (.bl true) false .non := by
  rw [settles_ok nB (rnds_Rds (tb_Tb nB) ldB) (fun _ => rounds_eq (tb_Tb nB) ldB), show ((rnds (tb 2 [10, 5]) tpB).all fun r => decide (r.length = 1)) = true by decide +kernel]
theorem law_tb {n : Nat} {rs : List Nat} (h : rs.length = n) : ((List.range (2 ^ n)).map fun s => ofB n fun i => rs.getD i 0 / 2 ^ s % 2) = tb n rs := by
  unfold tb F
  rw [h]
theorem stage4 {ns : List Int} {es4 : List Nat} {n s k G N : Nat} {rs : List Nat} {A6 A7 A9 A12 s19 s20 s21 s22 : Sl} {b8 : Bool} (hK : NetK n rs) (h4 : n ≤ 4) :
    WS (exSs (pgP.gm (callN pgP 39)) (b_law.drop 21) [.val (.scr (ns.map .int)), .own 0 (.lst (es4.map dn)), .val (netD n rs), .val (.int (n : Nat)), .val (.lst ((tb n rs).map dn)), .val (.scr ((List.range (2 ^ n)).map dn)), A6, A7, .val (.bl b8), A9, .val (dn G), .val (.int (N : Nat)), A12, .no, .no, .no, .no, .val (.int (s : Nat)), .val (.int (k : Nat)), s19, s20, s21, s22, .no, .no, .no, .no]) (fun f => Cl (endFl false f) (fun d' fr' io => d' = .bl true ∧ fr' = false ∧ io = .non) noE) noE := by
  have h1 := hK.pos
  have hTl : (tb n rs).length = 2 ^ n := tb_len
  have h2p := Nat.two_pow_pos n
  unfold b_law
  simp only [List.drop_succ_cons, List.drop_zero]
  refine S_hold 1 ?_
  leaf_len
  rw [neg_row]
  have hbad := neg_bad (n := n) (by omega)
  have hbl : (List.replicate n (-1 : Int)).length ≤ 1000 := by simp; omega
  refine hold (S_hold 1 ?_)
  leaf_len
  refine Comp_const (d := sNet) (m := 15) rfl rfl (by decide) ?_ ?_
  · leaf_len
    intro a ha
    obtain ⟨i, hi, rfl⟩ := List.mem_map.mp ha
    have hi := List.mem_range.mp hi
    have hi15 : i = 0 ∨ i = 1 ∨ i = 2 ∨ i = 3 ∨ i = 4 ∨ i = 5 ∨ i = 6 ∨ i = 7 ∨ i = 8 ∨ i = 9 ∨ i = 10 ∨ i = 11 ∨ i = 12 ∨ i = 13 ∨ i = 14 := by omega
    rcases hi15 with rfl | rfl | rfl | rfl | rfl | rfl | rfl | rfl | rfl | rfl | rfl | rfl | rfl | rfl | rfl
    · leaf_len
      refine Cl_ok (ase_0 (rounds_bad hbl hbad) rfl) ?_
      leaf_len
      exact ⟨rfl, rfl⟩
    · leaf_len
      refine Cl_ok (ase_1 (basins_bad hbl hbad) rfl) ?_
      leaf_len
      exact ⟨rfl, rfl⟩
    · leaf_len
      refine Cl_ok (ase_2 (unreached_bad hbl hbad) rfl) ?_
      leaf_len
      exact ⟨rfl, rfl⟩
    · leaf_len
      refine Cl_ok (ase_3 (net_lead_bad hbl hbad) rfl) ?_
      leaf_len
      exact ⟨rfl, rfl⟩
    · leaf_len
      refine Cl_ok (ase_4 (period_bad hbl hbad) rfl) ?_
      leaf_len
      exact ⟨rfl, rfl⟩
    · leaf_len
      refine Cl_ok (ase_5 (is_one_to_one_bad hbl hbad) rfl) ?_
      leaf_len
      exact ⟨rfl, rfl⟩
    · leaf_len
      refine Cl_ok (ase_6 (net_back_bad hbl hbad) rfl) ?_
      leaf_len
      exact ⟨rfl, rfl⟩
    · leaf_len
      refine Cl_ok (ase_7 (settles_bad hbl hbad) rfl) ?_
      leaf_len
      exact ⟨rfl, rfl⟩
    · leaf_len
      refine Cl_ok (ase_8 (has_one_end_bad hbl hbad) rfl) ?_
      leaf_len
      exact ⟨rfl, rfl⟩
    · leaf_len
      refine Cl_ok (ase_9 (lead_bad hbl hbad) rfl) ?_
      leaf_len
      exact ⟨rfl, rfl⟩
    · leaf_len
      refine Cl_ok (ase_10 (length_bad hbl hbad) rfl) ?_
      leaf_len
      exact ⟨rfl, rfl⟩
    · leaf_len
      refine Cl_ok (ase_11 (power_bad hbl hbad) rfl) ?_
      leaf_len
      exact ⟨rfl, rfl⟩
    · leaf_len
      refine Cl_ok (ase_12 (road_bad hbl hbad) rfl) ?_
      leaf_len
      exact ⟨rfl, rfl⟩
    · leaf_len
      refine Cl_ok (ase_13 (behind_bad hbl hbad) rfl) ?_
      leaf_len
      exact ⟨rfl, rfl⟩
    · leaf_len
      refine Cl_ok (ase_14 (leading_to_bad hbl hbad) rfl) ?_
      leaf_len
      exact ⟨rfl, rfl⟩
  leaf_len
  have hst : ∀ b ∈ [D.int (-((1 : Nat) : Int)), D.int (((tb n rs).length : Nat) : Int)], ∃ i : Int, b = .int i ∧ (i < 0 ∨ ((2 ^ n : Nat) : Int) ≤ i) := fun b hb => by
    simp only [List.mem_cons, List.not_mem_nil, or_false] at hb
    rcases hb with rfl | rfl
    · exact ⟨_, rfl, .inl (by decide)⟩
    · exact ⟨_, rfl, .inr (by rw [hTl]; exact Int.le_refl _)⟩
  refine hold (S_hold 1 ?_)
  leaf_len
  refine Comp_const (d := .lst (List.replicate 2 sSt)) (m := 5) rfl rfl (by decide) ?_ ?_
  · leaf_len
    intro a ha
    simp only [List.mem_cons, List.not_mem_nil, or_false] at ha
    rcases ha with rfl | rfl | rfl | rfl | rfl
    · leaf_len
      refine Comp_const (d := sSt) (m := 2) rfl rfl (by decide) ?_ ?_
      · leaf_len
        intro b hb
        obtain ⟨i, rfl, hi⟩ := hst b hb
        leaf_len
        refine Cl_ok (ase_9 (lead_no hK hi) rfl) ?_
        leaf_len
        exact ⟨rfl, rfl⟩
      leaf_len
      exact ⟨rfl, rfl⟩
    · leaf_len
      refine Comp_const (d := sSt) (m := 2) rfl rfl (by decide) ?_ ?_
      · leaf_len
        intro b hb
        obtain ⟨i, rfl, hi⟩ := hst b hb
        leaf_len
        refine Cl_ok (ase_10 (length_no hK hi) rfl) ?_
        leaf_len
        exact ⟨rfl, rfl⟩
      leaf_len
      exact ⟨rfl, rfl⟩
    · leaf_len
      refine Comp_const (d := sSt) (m := 2) rfl rfl (by decide) ?_ ?_
      · leaf_len
        intro b hb
        obtain ⟨i, rfl, hi⟩ := hst b hb
        leaf_len
        refine Cl_ok (ase_12 (road_no hK hi) rfl) ?_
        leaf_len
        exact ⟨rfl, rfl⟩
      leaf_len
      exact ⟨rfl, rfl⟩
    · leaf_len
      refine Comp_const (d := sSt) (m := 2) rfl rfl (by decide) ?_ ?_
      · leaf_len
        intro b hb
        obtain ⟨i, rfl, hi⟩ := hst b hb
        leaf_len
        refine Cl_ok (ase_13 (behind_no hK hi) rfl) ?_
        leaf_len
        exact ⟨rfl, rfl⟩
      leaf_len
      exact ⟨rfl, rfl⟩
    · leaf_len
      refine Comp_const (d := sSt) (m := 2) rfl rfl (by decide) ?_ ?_
      · leaf_len
        intro b hb
        obtain ⟨i, rfl, hi⟩ := hst b hb
        leaf_len
        refine Cl_ok (ase_14 (leading_to_no hK hi) rfl) ?_
        leaf_len
        exact ⟨rfl, rfl⟩
      leaf_len
      exact ⟨rfl, rfl⟩
  leaf_len
  refine Cl_ok (law_flat_ok (rows := List.replicate 5 (List.replicate 2 sSt)) (by decide)) ?_
  leaf_len
  have hnum : ∀ b ∈ [D.int (-((1 : Nat) : Int)), D.int ((10 ^ 30 + 1 : Nat) : Int)], ∃ i : Int, b = .int i ∧ (i < 0 ∨ ((10 ^ 30 : Nat) : Int) < i) := fun b hb => by
    simp only [List.mem_cons, List.not_mem_nil, or_false] at hb
    rcases hb with rfl | rfl
    · exact ⟨_, rfl, .inl (by decide)⟩
    · exact ⟨_, rfl, .inr (by omega)⟩
  refine hold (S_hold 1 ?_)
  leaf_len
  refine Comp_const (d := sNum) (m := 2) rfl rfl (by decide) ?_ ?_
  · leaf_len
    intro b hb
    obtain ⟨i, rfl, hi⟩ : ∃ i : Int, b = .int i ∧ (i < 0 ∨ ((1000 : Nat) : Int) < i) := by
      simp only [List.mem_cons, List.not_mem_nil, or_false] at hb
      rcases hb with rfl | rfl
      · exact ⟨_, rfl, .inl (by decide)⟩
      · exact ⟨_, rfl, .inr (by decide)⟩
    leaf_len
    refine Cl_ok (ase_12 (road_num (s := 0) hK h2p hi) rfl) ?_
    leaf_len
    exact ⟨rfl, rfl⟩
  leaf_len
  refine Comp_const (d := .lst (List.replicate 2 sNum)) (m := 2) rfl rfl (by decide) ?_ ?_
  · leaf_len
    intro a ha
    simp only [List.mem_cons, List.not_mem_nil, or_false] at ha
    rcases ha with rfl | rfl
    · leaf_len
      refine Comp_const (d := sNum) (m := 2) rfl rfl (by decide) ?_ ?_
      · leaf_len
        intro b hb
        obtain ⟨i, rfl, hi⟩ := hnum b hb
        leaf_len
        refine Cl_ok (ase_13 (behind_num (s := 0) hK h2p hi) rfl) ?_
        leaf_len
        exact ⟨rfl, rfl⟩
      leaf_len
      exact ⟨rfl, rfl⟩
    · leaf_len
      refine Comp_const (d := sNum) (m := 2) rfl rfl (by decide) ?_ ?_
      · leaf_len
        intro b hb
        obtain ⟨i, rfl, hi⟩ := hnum b hb
        leaf_len
        refine Cl_ok (ase_14 (leading_to_num (s := 0) hK h2p hi) rfl) ?_
        leaf_len
        exact ⟨rfl, rfl⟩
      leaf_len
      exact ⟨rfl, rfl⟩
  leaf_len
  refine Cl_ok (law_flat_ok (rows := List.replicate 2 (List.replicate 2 sNum)) (by decide)) ?_
  leaf_len
  refine hold (S_hold 1 ?_)
  leaf_len
  refine Comp_const (d := sNum) (m := 2) rfl rfl (by decide) ?_ ?_
  · leaf_len
    intro b hb
    obtain ⟨i, rfl, hi⟩ := hnum b hb
    leaf_len
    refine Cl_ok (ase_11 (power_num hK hi) rfl) ?_
    leaf_len
    exact ⟨rfl, rfl⟩
  leaf_len
  refine hold ?_
  leaf_len
  refine W_and ?_
  leaf_len
  refine rep_same (m := 15) (by decide +kernel) ?_
  leaf_len
  refine W_and ?_
  leaf_len
  refine rep_same (m := 10) (by decide +kernel) ?_
  leaf_len
  refine rep_same (m := 8) (by decide +kernel) ?_
  leaf_len
  exact ⟨rfl, rfl, rfl⟩
theorem stage3 {ns : List Int} {es' : List Nat} {n md pd : Nat} {rs : List Nat} {tp : Nat → Nat × Nat} {X0 X1 X2 X5 X6 X7 X8 : D} {A6 : Sl} {b8 : Bool} (hK : NetK n rs) (h4 : n ≤ 4) (hd' : okD es') (hT : Tb (tb n rs)) (g : Lds (tb n rs) tp) (hmd16 : md ≤ 16)
    (hmds : ∀ s, s < 2 ^ n → (tp s).1 ≤ md) (hpdp : 0 < pd ∧ pd ≤ 2 ^ 16) (hpds : ∀ s, s < 2 ^ n → pd % (tp s).2 = 0) :
    WS (exSs (pgP.gm (callN pgP 39)) (b_law.drop 15) [.val (.scr (ns.map .int)), .own 0 (.lst (es'.map dn)), .val (netD n rs), .val (.int (n : Nat)), .val (.lst ((tb n rs).map dn)), .val (.scr ((List.range (2 ^ n)).map dn)), A6, .own 0 (.lst ((List.range (2 ^ n)).map fun s => .lst [dn (tp s).1, dn (tp s).2])), .val (.bl b8), .own 0 (.lst ([X0, X1, X2] ++ [.int ((md : Nat) : Int), .int ((pd : Nat) : Int), X5] ++ [X6] ++ [X7, X8])), .no, .no, .no, .no, .no, .no, .no, .no, .no, .no, .no, .no, .no, .no, .no, .no, .no]) (fun f => Cl (endFl false f) (fun d' fr' io => d' = .bl true ∧ fr' = false ∧ io = .non) noE) noE := by
  have h1 := hK.pos
  have h2 : 2 ^ n ≤ 16 := Nat.pow_le_pow_right (n := 2) (j := 4) (by decide) h4
  have h2p := Nat.two_pow_pos n
  have hTl : (tb n rs).length = 2 ^ n := tb_len
  unfold b_law
  simp only [List.drop_succ_cons, List.drop_zero]
  refine S_hold 2 ?_
  leaf_len
  obtain ⟨x, hx, hcall⟩ := law_pick_ok (k := 37) es'.dropLast.dropLast.dropLast (l := [dn (10 ^ 30), dn (10 ^ 18 + nx es'.dropLast.dropLast), dn 5000]) (by simp) (by simp)
  refine Cl_ok hcall ?_
  clear hcall
  have hs := Nat.mod_lt (nx es') h2p
  have hk := Nat.mod_lt (nx es'.dropLast) (show 0 < 60 by decide)
  have hnx := nx_lt (okD_dl (okD_dl hd'))
  obtain ⟨G, rfl, hG1, hG2⟩ : ∃ G : Nat, x = dn G ∧ 5000 ≤ G ∧ G ≤ 10 ^ 30 := by
    simp only [List.mem_cons, List.not_mem_nil, or_false] at hx
    rcases hx with rfl | rfl | rfl
    · exact ⟨_, rfl, by decide, Nat.le_refl _⟩
    · exact ⟨_, rfl, by omega, by omega⟩
    · exact ⟨_, rfl, by decide, by decide⟩
  clear hx
  leaf_len
  rw [hTl]
  generalize nx es' % 2 ^ n = s at hs ⊢
  generalize nx es'.dropLast % 60 = k at hk ⊢
  generalize es'.dropLast.dropLast.dropLast.dropLast = es4
  refine hold (S_hold 2 ?_)
  leaf_len
  have hmod := Nat.mod_lt (G - md) hpdp.1
  obtain ⟨N, hN⟩ : ∃ N, N = md + (G - md) % pd := ⟨_, rfl⟩
  rw [← hN]
  have hMk : k ≤ max k N := Nat.le_max_left _ _
  have hMN : N ≤ max k N := Nat.le_max_right _ _
  have hM : max k N ≤ 100000 := by omega
  obtain ⟨M, hMe⟩ : ∃ M, M = max k N := ⟨_, rfl⟩
  rw [← hMe] at hMk hMN hM
  have hfar : ∀ a, a < 2 ^ n → it (fT (tb n rs)) a G = it (fT (tb n rs)) a N := fun a ha => by
    have l := g a (by rw [hTl]; exact ha)
    have q1 := hmds a ha
    refine l.near (by omega) (by omega) ?_
    have q2 : pd % (tp a).2 = 0 := hpds a ha
    obtain ⟨c, hc⟩ := Nat.dvd_of_mod_eq_zero q2
    have q3 : G = N + pd * ((G - md) / pd) := by
      have := Nat.mod_add_div (G - md) pd
      omega
    rw [q3, hc, Nat.mul_assoc, Nat.add_mul_mod_self_left]
  refine Comp_map (as := List.range (2 ^ n)) (fi := dn) (fo := fun a => .lst (((List.range (M + 1)).map (it (fT (tb n rs)) a)).map dn)) rfl rfl (line_le (by rw [List.length_range]; omega)) ?_ ?_
  · leaf_len
    intro a ha
    have ha : a < (tb n rs).length := by rw [hTl]; exact List.mem_range.mp ha
    leaf_len
    rw [← hMe]
    refine Cl_ok (law_road_ok hT ha (by omega)) ?_
    leaf_len
    exact ⟨rfl, rfl⟩
  clear hMe hmod hmds hpds
  leaf_len
  refine hold (S_hold 1 ?_)
  leaf_len
  have hs' : s < (tb n rs).length := by rw [hTl]; exact hs
  have hls := (g s hs').le hT hs'
  refine Cl_ok (ask_9 (lead_ok hK hT g hs)) ?_
  leaf_len
  refine Cl_ok (ask_10 (length_ok hK hT g hs)) ?_
  leaf_len
  refine Cl_ok (ask_12 (road_ok hK hs (by omega))) ?_
  leaf_len
  have hit : ∀ a i, a < 2 ^ n → it (fT (tb n rs)) a i < 16 := fun a i ha => by
    have := it_lt hT.cl (s := a) (by rw [hTl]; exact ha) i
    omega
  have rr : Rok (.lst [dn (tp s).1, dn (tp s).2, .tup (((List.range (k + 1)).map (it (fT (tb n rs)) s)).map dn)]) 200000 60 := by
    have r1 : Rok (.tup (((List.range (k + 1)).map (it (fT (tb n rs)) s)).map dn)) (60 * 1923 + 4) 59 := rok_nats (by simp; omega) fun x hx => by
      obtain ⟨i, _, rfl⟩ := List.mem_map.mp hx
      have := hit s i hs
      omega
    exact (rok_lst (roks_cons (rok_nat (small_rok (by omega))) (roks_cons (rok_nat (small_rok (by omega))) (roks_cons r1 roks_nil)))).le (by decide)
  refine bq_repr rr rfl (by decide) ?_
  leaf_len
  refine ix_lmap (a := s) (List.getElem?_range hs) ?_
  leaf_len
  refine ix_lmap (a := s) (List.getElem?_range hs) ?_
  leaf_len
  refine Slx_of rfl ?_
  rw [cut_to _ _ (by omega), ← List.map_take, ← List.map_take, List.take_range, Nat.min_eq_left (by omega)]
  leaf_len
  refine bq_repr rr rfl (by decide) ?_
  leaf_len
  refine cm_repr rfl rr.plain ?_
  leaf_len
  refine hold (S_hold 1 ?_)
  leaf_len
  generalize Sl.own 0 (D.lst (List.map (fun s => D.lst [dn (tp s).fst, dn (tp s).snd]) (List.range (2 ^ n)))) = A7
  generalize Sl.own 0 (D.lst (_ ++ _ ++ _ ++ _)) = A9
  refine For_inv (as := [(k, k), (G, N)]) (fi := fun p : Nat × Nat => .tup [dn p.1, dn p.2]) (fun pre ρ => ∃ s19 s20 s21 s22, ρ = [.val (.scr (ns.map .int)), .own 0 (.lst (es4.map dn)), .val (netD n rs), .val (.int (n : Nat)), .val (.lst ((tb n rs).map dn)), .val (.scr ((List.range (2 ^ n)).map dn)), A6, A7, .val (.bl b8), A9, .val (dn G), .val (.int (N : Nat)), .own 0 (.lst ((List.range (2 ^ n)).map fun a => .lst (((List.range (M + 1)).map (it (fT (tb n rs)) a)).map dn))), .no, .no, .no, .no, .val (.int (s : Nat)), .val (.int (k : Nat)), s19, s20, s21, s22, .no, .no, .no, .no] ∧ okQ s19 ∧ okQ s20 ∧ okQ s21 ∧ okQ s22) rfl (.inl rfl) ?_ ?_ ?_
  · exact ⟨_, _, _, _, rfl, trivial, trivial, trivial, trivial⟩
  · rintro pre ⟨t, e⟩ post ea ρ ⟨s19, s20, s21, s22, rfl, k19, k20, k21, k22⟩
    have hte : t ≤ 10 ^ 30 ∧ e ≤ M ∧ ∀ a, a < 2 ^ n → it (fT (tb n rs)) a t = it (fT (tb n rs)) a e := by
      have hm : (t, e) ∈ [(k, k), (G, N)] := by rw [ea]; simp
      simp only [List.mem_cons, List.not_mem_nil, or_false] at hm
      rcases hm with hm | hm
      · cases hm
        exact ⟨by omega, hMk, fun _ _ => rfl⟩
      · cases hm
        exact ⟨hG2, hMN, hfar⟩
    obtain ⟨ht, he2, heq⟩ := hte
    leaf_len
    refine Comp_map (as := List.range (2 ^ n)) (fi := fun a => .lst (((List.range (M + 1)).map (it (fT (tb n rs)) a)).map dn)) (fo := fun a => dn (it (fT (tb n rs)) a e)) rfl rfl (line_le (by rw [List.length_range]; omega)) ?_ ?_
    · leaf_len
      intro a ha
      leaf_len
      · simp
        omega
      leaf_len
      rw [getD_rng (by omega)]
      exact ⟨rfl, rfl⟩
    have e1 : (List.range (2 ^ n)).map (fun a => dn (it (fT (tb n rs)) a e)) = ((List.range (2 ^ n)).map fun a => it (fT (tb n rs)) a e).map dn := by rw [List.map_map]; rfl
    rw [e1]
    leaf_len
    refine Cl_ok (ask_11 (power_ok hK ht)) ?_
    leaf_len
    refine Cl_ok (ask_13 (behind_ok hK hs ht)) ?_
    leaf_len
    refine Cl_ok (ask_14 (leading_to_ok hK hs ht)) ?_
    have e2 : (List.range (2 ^ n)).map (fun a => it (fT (tb n rs)) a t) = (List.range (2 ^ n)).map fun a => it (fT (tb n rs)) a e := List.map_congr_left fun a ha => heq a (List.mem_range.mp ha)
    have e3 : (List.range (2 ^ n)).filter (fun a => decide (it (fT (tb n rs)) a t = s)) = (List.range (2 ^ n)).filter fun a => decide (it (fT (tb n rs)) a e = s) := List.filter_congr fun a ha => by rw [heq a (List.mem_range.mp ha)]
    rw [e2, e3, heq s hs]
    leaf_len
    have rr2 : Rok (.lst [netD n (nof n ((List.range (2 ^ n)).map fun a => it (fT (tb n rs)) a e)), dn (it (fT (tb n rs)) s e), .tup (((List.range (2 ^ n)).filter fun a => decide (it (fT (tb n rs)) a e = s)).map dn)]) 100000 60 := by
      have r1 : Rok (netD n (nof n ((List.range (2 ^ n)).map fun a => it (fT (tb n rs)) a e))) 20000 59 := rok_net (by omega) (by rw [nof_len]; omega) (nof_lt (by simp; omega))
      have r2 : Rok (.tup (((List.range (2 ^ n)).filter fun a => decide (it (fT (tb n rs)) a e = s)).map dn)) (16 * 1923 + 4) 59 := rok_nats (by have := List.length_filter_le (fun a => decide (it (fT (tb n rs)) a e = s)) (List.range (2 ^ n)); simp at this ⊢; omega) fun x hx => by
        have := List.mem_range.mp (List.mem_filter.mp hx).1
        omega
      have := hit s e hs
      exact (rok_lst (roks_cons r1 (roks_cons (rok_nat (small_rok (by omega))) (roks_cons r2 roks_nil)))).le (by decide)
    refine bq_repr rr2 rfl (by decide) ?_
    leaf_len
    · simp
    · omega
    · simp
      omega
    leaf_len
    rw [nof_eq (by simp), getD_rng hs]
    refine Comp_filter (as := List.range (2 ^ n)) (fi := dn) (fo := dn) (p := fun a => decide (it (fT (tb n rs)) a e = s)) rfl rfl (line_le (by rw [List.length_range]; omega)) ?_ ?_
    · leaf_len
      intro a ha
      have ha := List.mem_range.mp ha
      leaf_len
      · simp
        omega
      leaf_len
      rw [getD_rng ha]
      refine iff3 (fun h => ?_) (fun h => ?_)
      · leaf_len
        exact ⟨rfl, by rw [h]; rfl⟩
      · leaf_len
        exact ⟨rfl, by rw [h]; rfl⟩
    leaf_len
    refine bq_repr rr2 rfl (by decide) ?_
    leaf_len
    refine cm_repr rfl rr2.plain ?_
    leaf_len
    exact ⟨_, _, _, _, rfl, trivial, trivial, trivial, trivial⟩
  rintro ρ ⟨s19, s20, s21, s22, rfl, k19, k20, k21, k22⟩
  leaf_len
  exact hold (stage4 hK h4)
theorem stage2 {ns : List Int} {es' : List Nat} {n : Nat} {rs : List Nat} {tp : Nat → Nat × Nat} (hK : NetK n rs) (h4 : n ≤ 4) (hd' : okD es') (hT : Tb (tb n rs)) (g : Lds (tb n rs) tp) :
    WS (exSs (pgP.gm (callN pgP 39)) (b_law.drop 7) [.val (.scr (ns.map .int)), .own 0 (.lst (es'.map dn)), .val (netD n rs), .val (.int (n : Nat)), .own 0 (.lst ((tb n rs).map dn)), .val (.scr ((List.range (2 ^ n)).map dn)), .no, .no, .no, .no, .no, .no, .no, .no, .no, .no, .no, .no, .no, .no, .no, .no, .no, .no, .no, .no, .no]) (fun f => Cl (endFl false f) (fun d' fr' io => d' = .bl true ∧ fr' = false ∧ io = .non) noE) noE := by
  have h1 := hK.pos
  have h2 : 2 ^ n ≤ 16 := Nat.pow_le_pow_right (n := 2) (j := 4) (by decide) h4
  have h2p := Nat.two_pow_pos n
  have hTl : (tb n rs).length = 2 ^ n := tb_len
  have hR := rnds_Rds hT g
  unfold b_law
  simp only [List.drop_succ_cons, List.drop_zero]
  refine S_hold 1 ?_
  leaf_len
  refine Comp_mapG (as := List.range (2 ^ n)) (fi := dn) (fo := fun s => .tup [.tup ((rnd1 (tb n rs) tp s).map dn), .bl true]) rfl rfl (line_le (by rw [List.length_range]; omega)) (fun z => by have := List.range_eq_nil.mp z; omega) ?_
  leaf_len
  apply Exists.intro
  refine ⟨?_, ?_, ?_⟩
  · intro s hs
    have hs : s < (tb n rs).length := by rw [hTl]; exact List.mem_range.mp hs
    leaf_len
    refine Cl_ok (law_round_ok hT g hs) ?_
    leaf_len
    exact ⟨rfl, rfl⟩
  · intro s hs
    have hs : s < (tb n rs).length := by rw [hTl]; exact List.mem_range.mp hs
    leaf_len
    refine Cl_ok (law_round_ok hT g hs) ?_
    leaf_len
    exact ⟨rfl, rfl⟩
  leaf_len
  obtain ⟨p, r, g1, g2, g3, g4⟩ := puts_gen (g := fun r : List Nat => D.tup (r.map dn)) true (.bl true) dns_eqv keyT ((List.range (2 ^ n)).map (rnd1 (tb n rs) tp)) [] false [] (.inl rfl) (by simp; exact line_lt (by omega))
  rw [List.map_map] at g1
  refine bq_dict g1 g2 ?_
  have g5 : r.1 = true := g4 (.inl fun z => by
    have := List.range_eq_nil.mp (List.map_eq_nil_iff.mp z)
    omega)
  have g6 : (ddF [] ((List.range (2 ^ n)).map (rnd1 (tb n rs) tp))).map (fun r : List Nat => D.tup (r.map dn)) = (ddF [] ((List.range (tb n rs).length).map fun s => cI (rnd1 (tb n rs) tp s))).map iT := by
    have e1 := ddF_map (f := cI) (fun a b => cI_inj) ((List.range (2 ^ n)).map (rnd1 (tb n rs) tp)) []
    rw [List.map_map] at e1
    rw [hTl]
    rw [show (ddF [] ((List.range (2 ^ n)).map fun s => cI (rnd1 (tb n rs) tp s))) = (ddF [] ((List.range (2 ^ n)).map (rnd1 (tb n rs) tp))).map cI from e1.symm, List.map_map]
    exact List.map_congr_left fun r _ => iT_cI r
  rw [g3, g5, g6]
  clear g1 g2 g3 g4 g5 g6
  leaf_len
  refine bq_sortT (tups_of fun c hc => (rnds_key g c hc).1) ?_
  rw [rnds_back g]
  leaf_len
  refine hold (S_hold 1 ?_)
  leaf_len
  refine Comp_map (as := List.range (2 ^ n)) (fi := dn) (fo := fun s => .lst [dn (tp s).1, dn (tp s).2]) rfl rfl (line_le (by rw [List.length_range]; omega)) ?_ ?_
  · leaf_len
    intro s hs
    have hs : s < (tb n rs).length := by rw [hTl]; exact List.mem_range.mp hs
    leaf_len
    refine Cl_ok (law_lead_ok hT g hs) ?_
    leaf_len
    exact ⟨rfl, rfl⟩
  leaf_len
  refine hold (S_hold 1 ?_)
  leaf_len
  refine Comp_map (as := tb n rs) (fi := dn) (fo := fun x => .tup [dn x, .bl true]) rfl rfl (line_le (by omega)) ?_ ?_
  · leaf_len
    intro s hs
    leaf_len
    exact ⟨rfl, rfl⟩
  leaf_len
  obtain ⟨p, r, g1, g2, g3, g4⟩ := puts_gen (g := dn) false (.bl true) dn_eqv (fun _ => ⟨rfl, rfl⟩) (tb n rs) [] false [] (.inl rfl) (by simp; exact line_lt (by omega))
  refine bq_dict g1 g2 ?_
  rw [g3]
  clear g1 g2 g3 g4
  leaf_len
  rw [List.length_map, hTl]
  have hrk : ∀ {k : Nat}, ∀ r ∈ rnds (tb n rs) tp, Rok (.tup (r.map dn)) (16 * 1923 + 4) (k + 1) := fun {k} r hr => by
    obtain ⟨m, p, hm, hp, rfl, l, _⟩ := hR.is r hr
    refine rok_nats (by rw [rd_len]; omega) fun x hx => ?_
    obtain ⟨i, hi, rfl⟩ := mem_rd.mp hx
    have := it_lt hT.cl hm (0 + i)
    omega
  have hRl := hR.le
  have hrl : ∀ {k : Nat}, Rok (.lst ((rnds (tb n rs) tp).map fun r => .tup (r.map dn))) (16 * (16 * 1923 + 4 + 2) + 4) (k + 2) := rok_lst (roks_mapL (by omega) hrk)
  refine hold (S_hold 1 ?_)
  leaf_len
  refine Comp_map (as := List.range (2 ^ n)) (fi := dn) (fo := fun s => dn ((rnds (tb n rs) tp).idxOf (rnd1 (tb n rs) tp s))) rfl rfl (line_le (by rw [List.length_range]; omega)) ?_ ?_
  · leaf_len
    intro s hs
    have hs : s < (tb n rs).length := by rw [hTl]; exact List.mem_range.mp hs
    have hin : rnd1 (tb n rs) tp s ∈ rnds (tb n rs) tp := (mem_rnds g _).mpr ⟨s, hs, rfl⟩
    leaf_len
    refine Cl_ok (law_round_ok hT g hs) ?_
    leaf_len
    refine bq_index (fit_of (hrk (k := 59) _ hin)) (fit_of (hrl (k := 58))) (find_gen (g := fun r : List Nat => D.tup (r.map dn)) dns_eqv hin) ?_
    leaf_len
    exact ⟨rfl, rfl⟩
  leaf_len
  refine Comp_filter (as := List.range (2 ^ n)) (fi := dn) (fo := dn) (p := fun a => !decide (a ∈ tb n rs)) rfl rfl (line_le (by rw [List.length_range]; omega)) ?_ ?_
  · leaf_len
    intro a ha
    leaf_len
    refine cm_ninN (.inl rfl) ?_
    leaf_len
    refine iff3 (fun h => ?_) (fun h => ?_)
    · leaf_len
      exact ⟨rfl, by rw [h]; rfl⟩
    · leaf_len
      exact ⟨rfl, by rw [h]; rfl⟩
  leaf_len
  refine hold (S_hold 1 ?_)
  leaf_len
  refine Comp_map (as := List.range (2 ^ n)) (fi := fun s => .lst [dn (tp s).1, dn (tp s).2]) (fo := fun s => .int (((tp s).1 : Nat) : Int)) rfl rfl (line_le (by rw [List.length_range]; omega)) ?_ ?_
  · leaf_len
    intro a ha
    leaf_len
    exact ⟨rfl, rfl⟩
  leaf_len
  refine bq_maxN (f := fun s => (tp s).1) (fun z => by have := List.range_eq_nil.mp z; omega) ?_
  leaf_len
  refine Comp_map (as := rnds (tb n rs) tp) (fi := fun r => .tup (r.map dn)) (fo := fun r => .int ((r.length : Nat) : Int)) rfl rfl (line_le (by omega)) ?_ ?_
  · leaf_len
    intro a ha
    leaf_len
    exact ⟨rfl, rfl⟩
  have em : (rnds (tb n rs) tp).map (fun r => D.int ((r.length : Nat) : Int)) = ((rnds (tb n rs) tp).map List.length).map dn := by rw [List.map_map]; rfl
  have hlen : ∀ x ∈ (rnds (tb n rs) tp).map List.length, 0 < x ∧ x ≤ 256 := fun x hx => by
    obtain ⟨r, hr, rfl⟩ := List.mem_map.mp hx
    obtain ⟨m, p, hm, hp, rfl, l, _⟩ := hR.is r hr
    rw [rd_len]
    have := l.pos
    omega
  rw [em]
  leaf_len
  refine Cl_ok (law_multiple_ok hlen (by rw [List.length_map]; omega)) ?_
  leaf_len
  refine hold (S_hold 1 ?_)
  leaf_len
  obtain ⟨NB, hNB⟩ : ∃ NB, NB = if (tb n rs).Nodup then netD n (nof n ((List.range (2 ^ n)).map fun e => (tb n rs).idxOf e)) else D.str ("!none" : Str) := ⟨_, rfl⟩
  have hdd : (ddF [] (tb n rs)).length = 2 ^ n ↔ (tb n rs).Nodup := by rw [← hTl]; exact nodup_dd
  refine W_same (d := NB) ?_ ?_
  · refine W_ite ?_
    leaf_len
    refine iff3 (fun h => ?_) (fun h => ?_)
    · have nd : (tb n rs).Nodup := hdd.mp (by simpa using h)
      leaf_len
      refine Comp_map (as := List.range (2 ^ n)) (fi := dn) (fo := fun e => dn ((tb n rs).idxOf e)) rfl rfl (line_le (by rw [List.length_range]; omega)) ?_ ?_
      · leaf_len
        intro s hs
        have hs : s < (tb n rs).length := by rw [hTl]; exact List.mem_range.mp hs
        have hin : s ∈ tb n rs := all_in nd (fun x hx => by
          obtain ⟨j, hj, rfl⟩ := List.mem_iff_getElem.mp hx
          have := hT.cl j hj
          unfold fT at this
          rwa [List.getD_eq_getElem?_getD, List.getElem?_eq_getElem hj] at this) hs
        leaf_len
        refine bq_index rfl (fit_ints (fun a : Nat => a) (tb n rs)) (find_at hin) ?_
        leaf_len
        exact ⟨rfl, rfl⟩
      have e9 : (List.range (2 ^ n)).map (fun e => dn ((tb n rs).idxOf e)) = ((List.range (2 ^ n)).map fun e => (tb n rs).idxOf e).map dn := by rw [List.map_map]; rfl
      rw [e9]
      leaf_len
      · simp
      · omega
      rw [nof_eq (by simp)]
      leaf_len
      refine ⟨?_, rfl⟩
      rw [hNB, if_pos nd]
    · have nd : ¬ (tb n rs).Nodup := fun z => by simp [hdd.mpr z] at h
      leaf_len
      refine ⟨?_, rfl⟩
      rw [hNB, if_neg nd]
  leaf_len
  · exact line_lt (by simp)
  refine hold (S_hold 1 ?_)
  leaf_len
  refine Comp_map (as := rnds (tb n rs) tp) (fi := fun r => .tup (r.map dn)) (fo := fun r => .int ((r.length : Nat) : Int)) rfl rfl (line_le (by omega)) ?_ ?_
  · leaf_len
    intro a ha
    leaf_len
    exact ⟨rfl, rfl⟩
  have hne : rnds (tb n rs) tp ≠ [] := fun z => by
    have := (mem_rnds g (rnd1 (tb n rs) tp 0)).mpr ⟨0, hT.pos, rfl⟩
    rw [z] at this
    exact nomatch this
  leaf_len
  have hone : decide ((((rnds (tb n rs) tp).map fun r => r.length).max?.getD 0) = 1) = (rnds (tb n rs) tp).all fun r => decide (r.length = 1) := by
    rw [max_one (fun z => hne (List.map_eq_nil_iff.mp z)) (fun x hx => (hlen x hx).1), List.all_map]
    rfl
  rw [hone]
  refine hold (S_hold 1 ?_)
  leaf_len
  have e1 : (List.range (2 ^ n)).map (fun s => dn ((rnds (tb n rs) tp).idxOf (rnd1 (tb n rs) tp s))) = ((List.range (2 ^ n)).map fun s => (rnds (tb n rs) tp).idxOf (rnd1 (tb n rs) tp s)).map dn := by rw [List.map_map]; rfl
  rw [e1]
  obtain ⟨md, hmd⟩ : ∃ m, m = ((List.range (2 ^ n)).map fun s => (tp s).1).max?.getD 0 := ⟨_, rfl⟩
  obtain ⟨pd, hpd⟩ : ∃ m, m = lcmL ((rnds (tb n rs) tp).map List.length) := ⟨_, rfl⟩
  have hmd16 : md ≤ 16 := by
    rw [hmd]
    refine max_of (P := (· ≤ 16)) (fun x hx => ?_) (fun z => by have := List.range_eq_nil.mp (List.map_eq_nil_iff.mp z); omega)
    obtain ⟨s, hs, rfl⟩ := List.mem_map.mp hx
    have := (g s (by rw [hTl]; exact List.mem_range.mp hs)).le hT (by rw [hTl]; exact List.mem_range.mp hs)
    omega
  have hmds : ∀ s, s < 2 ^ n → (tp s).1 ≤ md := fun s hs => by
    have hm : (tp s).1 ∈ (List.range (2 ^ n)).map fun s => (tp s).1 := List.mem_map.mpr ⟨s, List.mem_range.mpr hs, rfl⟩
    cases e : ((List.range (2 ^ n)).map fun s => (tp s).1).max? with
    | none => rw [List.max?_eq_none_iff.mp e] at hm; exact nomatch hm
    | some m =>
      rw [hmd, e]
      exact (List.max?_eq_some_iff.mp e).2 _ hm
  have hpdp : 0 < pd ∧ pd ≤ 2 ^ 16 := by
    obtain ⟨q1, q2⟩ := lcmF_le (l := (rnds (tb n rs) tp).map List.length) (a := 1) (by decide) fun x hx => (hlen x hx).1
    have q3 := hR.sum hT
    have q4 : 2 ^ ((rnds (tb n rs) tp).map List.length).sum ≤ 2 ^ 16 := Nat.pow_le_pow_right (by decide) (by omega)
    rw [hpd]
    refine ⟨q1, ?_⟩
    show List.foldl Nat.lcm 1 _ ≤ _
    omega
  have hpds : ∀ s, s < 2 ^ n → pd % (tp s).2 = 0 := fun s hs => by
    have l := g s (by rw [hTl]; exact hs)
    have hm : (tp s).2 ∈ (rnds (tb n rs) tp).map List.length := List.mem_map.mpr ⟨rnd1 (tb n rs) tp s, (mem_rnds g _).mpr ⟨s, by rw [hTl]; exact hs, rfl⟩, rnd1_len l⟩
    rw [hpd]
    exact Nat.mod_eq_zero_of_dvd (lcmF_dvd.2 _ hm)
  rw [← hmd, ← hpd]
  have hdl : ∀ {k : Nat}, Rok (.lst [.lst ((rnds (tb n rs) tp).map fun r => .tup (r.map dn)), .tup (((List.range (2 ^ n)).map fun s => (rnds (tb n rs) tp).idxOf (rnd1 (tb n rs) tp s)).map dn), .tup (((List.range (2 ^ n)).filter fun a => !decide (a ∈ tb n rs)).map dn), dn md, dn pd, .bl (decide ((ddF [] (tb n rs)).length = 2 ^ n)), NB, .bl ((rnds (tb n rs) tp).all fun r => decide (r.length = 1)), .bl (decide ((rnds (tb n rs) tp).length = 1))]) 700000 (k + 3) := by
    intro k
    have r1 : Rok (.tup (((List.range (2 ^ n)).map fun s => (rnds (tb n rs) tp).idxOf (rnd1 (tb n rs) tp s)).map dn)) (16 * 1923 + 4) (k + 2) := rok_nats (by simpa using h2) fun x hx => by
      obtain ⟨s, hs, rfl⟩ := List.mem_map.mp hx
      have := List.idxOf_le_length (a := rnd1 (tb n rs) tp s) (l := rnds (tb n rs) tp)
      omega
    have r2 : Rok (.tup (((List.range (2 ^ n)).filter fun a => !decide (a ∈ tb n rs)).map dn)) (16 * 1923 + 4) (k + 2) := rok_nats (by have := List.length_filter_le (fun a => !decide (a ∈ tb n rs)) (List.range (2 ^ n)); simp at this ⊢; omega) fun x hx => by
      have := List.mem_range.mp (List.mem_filter.mp hx).1
      omega
    have r3 : Rok NB 20000 (k + 2) := by
      rw [hNB]
      split
      · exact rok_net (by omega) (by rw [nof_len]; omega) (nof_lt (by simp; omega))
      · exact (rok_str (by decide +kernel)).le (by decide)
    exact (rok_lst (roks_cons hrl (roks_cons r1 (roks_cons r2 (roks_cons (rok_nat (small_rok (by omega))) (roks_cons (rok_nat (small_rok (by omega))) (roks_cons rok_bl (roks_cons r3 (roks_cons rok_bl (roks_cons rok_bl roks_nil)))))))))).le (by decide)
  refine Comp_map (as := List.range 9) (fi := dn) (fo := fun i => [D.lst ((rnds (tb n rs) tp).map fun r => .tup (r.map dn)), .tup (((List.range (2 ^ n)).map fun s => (rnds (tb n rs) tp).idxOf (rnd1 (tb n rs) tp s)).map dn), .tup (((List.range (2 ^ n)).filter fun a => !decide (a ∈ tb n rs)).map dn), dn md, dn pd, .bl (decide ((ddF [] (tb n rs)).length = 2 ^ n)), NB, .bl ((rnds (tb n rs) tp).all fun r => decide (r.length = 1)), .bl (decide ((rnds (tb n rs) tp).length = 1))].getD i .non) rfl rfl (by exact line_le (by decide)) ?_ ?_
  · leaf_len
    intro i hi
    have hi := List.mem_range.mp hi
    have hi9 : i = 0 ∨ i = 1 ∨ i = 2 ∨ i = 3 ∨ i = 4 ∨ i = 5 ∨ i = 6 ∨ i = 7 ∨ i = 8 := by omega
    rcases hi9 with rfl | rfl | rfl | rfl | rfl | rfl | rfl | rfl | rfl
    · leaf_len
      refine Cl_ok (ask_0 (rounds_ok hK hT g)) ?_
      leaf_len
      exact ⟨rfl, rfl⟩
    · leaf_len
      refine Cl_ok (ask_1 (basins_ok hK g)) ?_
      leaf_len
      exact ⟨rfl, rfl⟩
    · leaf_len
      refine Cl_ok (ask_2 (unreached_ok hK)) ?_
      leaf_len
      exact ⟨rfl, rfl⟩
    · leaf_len
      refine Cl_ok (ask_3 (net_lead_ok hK g)) ?_
      rw [← hmd]
      leaf_len
      exact ⟨rfl, rfl⟩
    · leaf_len
      refine Cl_ok (ask_4 (period_ok hK g)) ?_
      rw [← hpd]
      leaf_len
      exact ⟨rfl, rfl⟩
    · leaf_len
      refine Cl_ok (ask_5 (is_one_to_one_ok hK)) ?_
      leaf_len
      exact ⟨rfl, rfl⟩
    · leaf_len
      by_cases nd : (tb n rs).Nodup
      · refine Cl_ok (ask_6 (net_back_ok hK nd)) ?_
        leaf_len
        refine ⟨rfl, ?_⟩
        rw [hNB, if_pos nd]
        rfl
      · refine Cl_ok (ase_6 (net_back_no hK nd) rfl) ?_
        leaf_len
        refine ⟨rfl, ?_⟩
        rw [hNB, if_neg nd]
        rfl
    · leaf_len
      refine Cl_ok (ask_7 (settles_ok hK hR (fun _ => rounds_eq hT g))) ?_
      leaf_len
      exact ⟨rfl, rfl⟩
    · leaf_len
      refine Cl_ok (ask_8 (has_one_end_ok hK (fun _ => rounds_eq hT g))) ?_
      leaf_len
      exact ⟨rfl, rfl⟩
  leaf_len
  refine bq_repr (hdl (k := 57)) rfl (by decide) ?_
  leaf_len
  refine bq_repr (hdl (k := 57)) rfl (by decide) ?_
  leaf_len
  refine cm_repr rfl (hdl (k := 57)).plain ?_
  leaf_len
  exact hold (stage3 hK h4 hd' hT g hmd16 hmds hpdp hpds)
theorem plainP (ns : List Int) (h63 : ns.length ≤ 63) : callN pgP 40 ix_law [.scr (ns.map .int)] = .ok (.bl true) false .non := by
  refine Cl_is (go_law ?_)
  refine S_hold 2 ?_
  leaf_len
  obtain ⟨ds, ⟨hd, hdl⟩, hc⟩ := law_draws_ok (k := 37) ns h63
  refine Cl_ok hc ?_
  leaf_len
  obtain ⟨es, ⟨hd, he⟩, hc⟩ := law_more_okD (k := 37) (m := 120) (by decide) ds hd hdl
  refine Cl_ok hc ?_
  leaf_len
  clear hc
  refine hold (S_hold 1 ?_)
  leaf_len
  refine Cl_ok cA ?_
  leaf_len
  refine Cl_ok cP ?_
  leaf_len
  refine Cl_ok cL ?_
  leaf_len
  refine Cl_ok cB ?_
  leaf_len
  refine Cl_ok cS ?_
  leaf_len
  refine bq_repr (by nest_room; done) rfl (by decide) ?_
  leaf_len
  refine bq_repr (by nest_room; done) rfl (by decide) ?_
  leaf_len
  refine cm_repr rfl (by rfl) ?_
  leaf_len
  refine hold (S_hold 4 ?_)
  leaf_len
  obtain ⟨⟨n, rs, es'⟩, ⟨hnet, h4, hd'⟩, hc⟩ := law_net_okD (k := 35) (most := 4) es hd (by decide) (by decide)
  refine Cl_ok hc ?_
  clear hc hd hdl
  dsimp only at hnet h4 hd' ⊢
  have hK : NetK n rs := ⟨hnet, by omega⟩
  have h1 := hnet.pos
  have hln := hnet.len
  have h2 : 2 ^ n ≤ 16 := Nat.pow_le_pow_right (n := 2) (j := 4) (by decide) h4
  have h2p := Nat.two_pow_pos n
  leaf_len
  refine Cl_ok (law_table_ok hln (by omega)) ?_
  leaf_len
  rw [law_tb hln]
  have hT := tb_Tb hK
  have hTl : (tb n rs).length = 2 ^ n := tb_len
  obtain ⟨tp, hp⟩ := lead_all hT
  have g : Lds (tb n rs) tp := fun s hs => (hp s hs).1
  clear hp
  have hR := rnds_Rds hT g
  leaf_len
  refine ⟨by omega, ?_⟩
  leaf_len
  rw [hTl]
  exact hold (stage2 hK h4 hd' hT g)
end K02
namespace K02
open PySem PI
theorem pg_eq : pg = pgP := by rfl
theorem plain : ∀ ns : List Int, ns.length ≤ 63 → (∀ z ∈ ns, Builtin.Int.intBits z ≤ 1048576) → ∃ o, callN pg 40 47 [.scr (ns.map .int)] = .ok (.bl true) false o := fun ns h _ => ⟨.non, by
  rw [pg_eq]
  exact plainP ns h⟩
def kd : Kd := ⟨["net", "standing", "cube", "paper", "number", "none", "large"], ["NotNet", "NotStanding", "NotCube", "NotPaper"], ["BadNumber", "NoAnswer", "TooLarge"], [], "!", "!other"⟩
theorem kind : ∀ f tbl, kinds.lookup f = some tbl → ∃ j dq d, KdTxt ds cls ancs f tbl j dq d := by
  intro f tbl e
  simp only [kinds, List.lookup_cons, List.lookup_nil] at e
  split at e
  · rename_i hx
    obtain rfl := eq_of_beq hx
    cases e
    exact ⟨35, _, kd, rfl, rfl, rfl, rfl, rfl, by decide +kernel, by decide +kernel, by decide +kernel, rfl, by decide, by decide +kernel⟩
  · cases e
end K02
open PySem PySem.W PyProof.Rows in
set_option maxHeartbeats 0 in
theorem PySem.Challenge.cw_switchrest_k02_roads_and_rounds_holds : PySem.Challenge.rw_switchrest_k02_roads_and_rounds.Holds := by
  w_on; o_law; k_head; (case hw => w_witness2)
  k_fill
  refine PI.walk_pi (l := PySem.Challenge.rw_switchrest_k02_roads_and_rounds) (pg := K02.pg) (li := 47) (k := 40) rfl rfl ⟨rfl, by decide, by decide⟩ (fun w h Y => PySem.W.kIn_of Y) ?F ?io K02.plain
  case io => exact ⟨_, _, _, rfl⟩
  case F =>
    intro w mg fa h KX G hmg
    refine PI.head_pi (ds := K02.ds) (cls := K02.cls) (cons := K02.cons) (kinds := K02.kinds) (ras := K02.ras) (anc := K02.ancs) KX G hmg ?D ?CM (by decide +kernel) (by decide +kernel) ?con (by decide +kernel) ?blt K02.kind (li := 47) rfl rfl rfl (by decide +kernel) (fun _ _ _ _ _ _ _ => rfl) 40
    case D =>
      unfold K02.ds
      refine' PI.defsF_cons ?qa0 ?ql0 ?qc0 ?qk0 (fun _ _ _ _ _ _ us hl => match us, hl with | [_], _ => rfl) ?qr0; (case qa0 => k_is); (case ql0 => k_is); (case qc0 => k_is); (case qk0 => k_is)
      refine' PI.defsF_cons ?qa1 ?ql1 ?qc1 ?qk1 (fun _ _ _ _ _ _ us hl => match us, hl with | [_], _ => rfl) ?qr1; (case qa1 => k_is); (case ql1 => k_is); (case qc1 => k_is); (case qk1 => k_is)
      refine' PI.defsF_cons ?qa2 ?ql2 ?qc2 ?qk2 (fun _ _ _ _ _ _ us hl => match us, hl with | [_, _], _ => rfl) ?qr2; (case qa2 => k_is); (case ql2 => k_is); (case qc2 => k_is); (case qk2 => k_is)
      refine' PI.defsF_cons ?qa3 ?ql3 ?qc3 ?qk3 (fun _ _ _ _ _ _ us hl => match us, hl with | [_, _], _ => rfl) ?qr3; (case qa3 => k_is); (case ql3 => k_is); (case qc3 => k_is); (case qk3 => k_is)
      refine' PI.defsF_cons ?qa4 ?ql4 ?qc4 ?qk4 (fun _ _ _ _ _ _ us hl => match us, hl with | [_, _], _ => rfl) ?qr4; (case qa4 => k_is); (case ql4 => k_is); (case qc4 => k_is); (case qk4 => k_is)
      refine' PI.defsF_cons ?qa5 ?ql5 ?qc5 ?qk5 (fun _ _ _ _ _ _ us hl => match us, hl with | [_], _ => rfl) ?qr5; (case qa5 => k_is); (case ql5 => k_is); (case qc5 => k_is); (case qk5 => k_is)
      refine' PI.defsF_cons ?qa6 ?ql6 ?qc6 ?qk6 (fun _ _ _ _ _ _ us hl => match us, hl with | [_, _], _ => rfl) ?qr6; (case qa6 => k_is); (case ql6 => k_is); (case qc6 => k_is); (case qk6 => k_is)
      refine' PI.defsF_cons ?qa7 ?ql7 ?qc7 ?qk7 (fun _ _ _ _ _ _ us hl => match us, hl with | [_, _, _], _ => rfl) ?qr7; (case qa7 => k_is); (case ql7 => k_is); (case qc7 => k_is); (case qk7 => k_is)
      refine' PI.defsF_cons ?qa8 ?ql8 ?qc8 ?qk8 (fun _ _ _ _ _ _ us hl => match us, hl with | [_, _], _ => rfl) ?qr8; (case qa8 => k_is); (case ql8 => k_is); (case qc8 => k_is); (case qk8 => k_is)
      refine' PI.defsF_cons ?qa9 ?ql9 ?qc9 ?qk9 (fun _ _ _ _ _ _ us hl => match us, hl with | [_, _], _ => rfl) ?qr9; (case qa9 => k_is); (case ql9 => k_is); (case qc9 => k_is); (case qk9 => k_is)
      refine' PI.defsF_cons ?qa10 ?ql10 ?qc10 ?qk10 (fun _ _ _ _ _ _ us hl => match us, hl with | [_, _], _ => rfl) ?qr10; (case qa10 => k_is); (case ql10 => k_is); (case qc10 => k_is); (case qk10 => k_is)
      refine' PI.defsF_cons ?qa11 ?ql11 ?qc11 ?qk11 (fun _ _ _ _ _ _ us hl => match us, hl with | [_, _], _ => rfl) ?qr11; (case qa11 => k_is); (case ql11 => k_is); (case qc11 => k_is); (case qk11 => k_is)
      refine' PI.defsF_cons ?qa12 ?ql12 ?qc12 ?qk12 (fun _ _ _ _ _ _ us hl => match us, hl with | [_, _, _], _ => rfl) ?qr12; (case qa12 => k_is); (case ql12 => k_is); (case qc12 => k_is); (case qk12 => k_is)
      refine' PI.defsF_cons ?qa13 ?ql13 ?qc13 ?qk13 (fun _ _ _ _ _ _ us hl => match us, hl with | [_], _ => rfl) ?qr13; (case qa13 => k_is); (case ql13 => k_is); (case qc13 => k_is); (case qk13 => k_is)
      refine' PI.defsF_cons ?qa14 ?ql14 ?qc14 ?qk14 (fun _ _ _ _ _ _ us hl => match us, hl with | [_], _ => rfl) ?qr14; (case qa14 => k_is); (case ql14 => k_is); (case qc14 => k_is); (case qk14 => k_is)
      refine' PI.defsF_cons ?qa15 ?ql15 ?qc15 ?qk15 (fun _ _ _ _ _ _ us hl => match us, hl with | [_], _ => rfl) ?qr15; (case qa15 => k_is); (case ql15 => k_is); (case qc15 => k_is); (case qk15 => k_is)
      refine' PI.defsF_cons ?qa16 ?ql16 ?qc16 ?qk16 (fun _ _ _ _ _ _ us hl => match us, hl with | [_], _ => rfl) ?qr16; (case qa16 => k_is); (case ql16 => k_is); (case qc16 => k_is); (case qk16 => k_is)
      refine' PI.defsF_cons ?qa17 ?ql17 ?qc17 ?qk17 (fun _ _ _ _ _ _ us hl => match us, hl with | [_], _ => rfl) ?qr17; (case qa17 => k_is); (case ql17 => k_is); (case qc17 => k_is); (case qk17 => k_is)
      refine' PI.defsF_cons ?qa18 ?ql18 ?qc18 ?qk18 (fun _ _ _ _ _ _ us hl => match us, hl with | [_, _, _], _ => rfl) ?qr18; (case qa18 => k_is); (case ql18 => k_is); (case qc18 => k_is); (case qk18 => k_is)
      refine' PI.defsF_cons ?qa19 ?ql19 ?qc19 ?qk19 (fun _ _ _ _ _ _ us hl => match us, hl with | [_], _ => rfl) ?qr19; (case qa19 => k_is); (case ql19 => k_is); (case qc19 => k_is); (case qk19 => k_is)
      refine' PI.defsF_cons ?qa20 ?ql20 ?qc20 ?qk20 (fun _ _ _ _ _ _ us hl => match us, hl with | [_], _ => rfl) ?qr20; (case qa20 => k_is); (case ql20 => k_is); (case qc20 => k_is); (case qk20 => k_is)
      refine' PI.defsF_cons ?qa21 ?ql21 ?qc21 ?qk21 (fun _ _ _ _ _ _ us hl => match us, hl with | [_, _], _ => rfl) ?qr21; (case qa21 => k_is); (case ql21 => k_is); (case qc21 => k_is); (case qk21 => k_is)
      refine' PI.defsF_cons ?qa22 ?ql22 ?qc22 ?qk22 (fun _ _ _ _ _ _ us hl => match us, hl with | [_], _ => rfl) ?qr22; (case qa22 => k_is); (case ql22 => k_is); (case qc22 => k_is); (case qk22 => k_is)
      refine' PI.defsF_cons ?qa23 ?ql23 ?qc23 ?qk23 (fun _ _ _ _ _ _ us hl => match us, hl with | [_], _ => rfl) ?qr23; (case qa23 => k_is); (case ql23 => k_is); (case qc23 => k_is); (case qk23 => k_is)
      refine' PI.defsF_cons ?qa24 ?ql24 ?qc24 ?qk24 (fun _ _ _ _ _ _ us hl => match us, hl with | [_], _ => rfl) ?qr24; (case qa24 => k_is); (case ql24 => k_is); (case qc24 => k_is); (case qk24 => k_is)
      refine' PI.defsF_cons ?qa25 ?ql25 ?qc25 ?qk25 (fun _ _ _ _ _ _ us hl => match us, hl with | [_], _ => rfl) ?qr25; (case qa25 => k_is); (case ql25 => k_is); (case qc25 => k_is); (case qk25 => k_is)
      refine' PI.defsF_cons ?qa26 ?ql26 ?qc26 ?qk26 (fun _ _ _ _ _ _ us hl => match us, hl with | [_], _ => rfl) ?qr26; (case qa26 => k_is); (case ql26 => k_is); (case qc26 => k_is); (case qk26 => k_is)
      refine' PI.defsF_cons ?qa27 ?ql27 ?qc27 ?qk27 (fun _ _ _ _ _ _ us hl => match us, hl with | [_], _ => rfl) ?qr27; (case qa27 => k_is); (case ql27 => k_is); (case qc27 => k_is); (case qk27 => k_is)
      refine' PI.defsF_cons ?qa28 ?ql28 ?qc28 ?qk28 (fun _ _ _ _ _ _ us hl => match us, hl with | [_, _], _ => rfl) ?qr28; (case qa28 => k_is); (case ql28 => k_is); (case qc28 => k_is); (case qk28 => k_is)
      refine' PI.defsF_cons ?qa29 ?ql29 ?qc29 ?qk29 (fun _ _ _ _ _ _ us hl => match us, hl with | [_], _ => rfl) ?qr29; (case qa29 => k_is); (case ql29 => k_is); (case qc29 => k_is); (case qk29 => k_is)
      refine' PI.defsF_cons ?qa30 ?ql30 ?qc30 ?qk30 (fun _ _ _ _ _ _ us hl => match us, hl with | [_], _ => rfl) ?qr30; (case qa30 => k_is); (case ql30 => k_is); (case qc30 => k_is); (case qk30 => k_is)
      refine' PI.defsF_cons ?qa31 ?ql31 ?qc31 ?qk31 (fun _ _ _ _ _ _ us hl => match us, hl with | [_], _ => rfl) ?qr31; (case qa31 => k_is); (case ql31 => k_is); (case qc31 => k_is); (case qk31 => k_is)
      refine' PI.defsF_cons ?qa32 ?ql32 ?qc32 ?qk32 (fun _ _ _ _ _ _ us hl => match us, hl with | [_], _ => rfl) ?qr32; (case qa32 => k_is); (case ql32 => k_is); (case qc32 => k_is); (case qk32 => k_is)
      refine' PI.defsF_cons ?qa33 ?ql33 ?qc33 ?qk33 (fun _ _ _ _ _ _ us hl => match us, hl with | [_, _], _ => rfl) ?qr33; (case qa33 => k_is); (case ql33 => k_is); (case qc33 => k_is); (case qk33 => k_is)
      refine' PI.defsF_cons ?qa34 ?ql34 ?qc34 ?qk34 (fun _ _ _ _ _ _ us hl => match us, hl with | [_, _], _ => rfl) ?qr34; (case qa34 => k_is); (case ql34 => k_is); (case qc34 => k_is); (case qk34 => k_is)
      refine' PI.defsF_cons ?qa35 ?ql35 ?qc35 ?qk35 (fun _ _ _ _ _ _ us hl => match us, hl with | [_], _ => rfl) ?qr35; (case qa35 => k_is); (case ql35 => k_is); (case qc35 => k_is); (case qk35 => k_is)
      refine' PI.defsF_cons ?qa36 ?ql36 ?qc36 ?qk36 (fun _ _ _ _ _ _ us hl => match us, hl with | [_], _ => rfl) ?qr36; (case qa36 => k_is); (case ql36 => k_is); (case qc36 => k_is); (case qk36 => k_is)
      refine' PI.defsF_cons ?qa37 ?ql37 ?qc37 ?qk37 (fun _ _ _ _ _ _ us hl => match us, hl with | [_, _], _ => rfl) ?qr37; (case qa37 => k_is); (case ql37 => k_is); (case qc37 => k_is); (case qk37 => k_is)
      refine' PI.defsF_cons ?qa38 ?ql38 ?qc38 ?qk38 (fun _ _ _ _ _ _ us hl => match us, hl with | [_], _ => rfl) ?qr38; (case qa38 => k_is); (case ql38 => k_is); (case qc38 => k_is); (case qk38 => k_is)
      refine' PI.defsF_cons ?qa39 ?ql39 ?qc39 ?qk39 (fun _ _ _ _ _ _ us hl => match us, hl with | [_, _], _ => rfl) ?qr39; (case qa39 => k_is); (case ql39 => k_is); (case qc39 => k_is); (case qk39 => k_is)
      refine' PI.defsF_cons ?qa40 ?ql40 ?qc40 ?qk40 (fun _ _ _ _ _ _ us hl => match us, hl with | [_, _], _ => rfl) ?qr40; (case qa40 => k_is); (case ql40 => k_is); (case qc40 => k_is); (case qk40 => k_is)
      refine' PI.defsF_cons ?qa41 ?ql41 ?qc41 ?qk41 (fun _ _ _ _ _ _ us hl => match us, hl with | [_, _], _ => rfl) ?qr41; (case qa41 => k_is); (case ql41 => k_is); (case qc41 => k_is); (case qk41 => k_is)
      refine' PI.defsF_cons ?qa42 ?ql42 ?qc42 ?qk42 (fun _ _ _ _ _ _ us hl => match us, hl with | [_, _, _], _ => rfl) ?qr42; (case qa42 => k_is); (case ql42 => k_is); (case qc42 => k_is); (case qk42 => k_is)
      refine' PI.defsF_cons ?qa43 ?ql43 ?qc43 ?qk43 (fun _ _ _ _ _ _ us hl => match us, hl with | [_, _], _ => rfl) ?qr43; (case qa43 => k_is); (case ql43 => k_is); (case qc43 => k_is); (case qk43 => k_is)
      refine' PI.defsF_cons ?qa44 ?ql44 ?qc44 ?qk44 (fun _ _ _ _ _ _ us hl => match us, hl with | [_, _], _ => rfl) ?qr44; (case qa44 => k_is); (case ql44 => k_is); (case qc44 => k_is); (case qk44 => k_is)
      refine' PI.defsF_cons ?qa45 ?ql45 ?qc45 ?qk45 (fun _ _ _ _ _ _ us hl => match us, hl with | [_], _ => rfl) ?qr45; (case qa45 => k_is); (case ql45 => k_is); (case qc45 => k_is); (case qk45 => k_is)
      refine' PI.defsF_cons ?qa46 ?ql46 ?qc46 ?qk46 (fun _ _ _ _ _ _ us hl => match us, hl with | [_, _, _, _], _ => rfl) ?qr46; (case qa46 => k_is); (case ql46 => k_is); (case qc46 => k_is); (case qk46 => k_is)
      refine' PI.defsF_cons ?qa47 ?ql47 ?qc47 ?qk47 (fun _ _ _ _ _ _ us hl => match us, hl with | [_], _ => rfl) ?qr47; (case qa47 => k_is); (case ql47 => k_is); (case qc47 => k_is); (case qk47 => k_is)
      exact PI.defsF_nil
    case CM =>
      refine' ⟨_, PI.clsL_cons ?pa0 ?pb0 ?pc0 ?pd0 ?pe0 ?pf0 ?pg0 ?ph0 ?pi0 ?pj0 ?pk0 ?pl0 (PI.clsL_cons ?pa1 ?pb1 ?pc1 ?pd1 ?pe1 ?pf1 ?pg1 ?ph1 ?pi1 ?pj1 ?pk1 ?pl1 (PI.clsL_cons ?pa2 ?pb2 ?pc2 ?pd2 ?pe2 ?pf2 ?pg2 ?ph2 ?pi2 ?pj2 ?pk2 ?pl2 (PI.clsL_cons ?pa3 ?pb3 ?pc3 ?pd3 ?pe3 ?pf3 ?pg3 ?ph3 ?pi3 ?pj3 ?pk3 ?pl3 (PI.clsL_cons ?pa4 ?pb4 ?pc4 ?pd4 ?pe4 ?pf4 ?pg4 ?ph4 ?pi4 ?pj4 ?pk4 ?pl4 (PI.clsL_cons ?pa5 ?pb5 ?pc5 ?pd5 ?pe5 ?pf5 ?pg5 ?ph5 ?pi5 ?pj5 ?pk5 ?pl5 (PI.clsL_cons ?pa6 ?pb6 ?pc6 ?pd6 ?pe6 ?pf6 ?pg6 ?ph6 ?pi6 ?pj6 ?pk6 ?pl6 (PI.clsL_cons ?pa7 ?pb7 ?pc7 ?pd7 ?pe7 ?pf7 ?pg7 ?ph7 ?pi7 ?pj7 ?pk7 ?pl7 (PI.clsL_nil)))))))), ?qM, ?qN⟩
      (case pa0 => k_is); (case pb0 => k_is); (case pc0 => k_exc); (case pd0 => k_is); (case pe0 => k_is); (case pf0 => k_is); (case pg0 => k_is); (case ph0 => k_is); (case pi0 => k_is); (case pj0 => k_is); (case pk0 => k_is); (case pl0 => k_is)
      (case pa1 => k_is); (case pb1 => k_is); (case pc1 => k_exc); (case pd1 => k_is); (case pe1 => k_is); (case pf1 => k_is); (case pg1 => k_is); (case ph1 => k_is); (case pi1 => k_is); (case pj1 => k_is); (case pk1 => k_is); (case pl1 => k_is)
      (case pa2 => k_is); (case pb2 => k_is); (case pc2 => k_exc); (case pd2 => k_is); (case pe2 => k_is); (case pf2 => k_is); (case pg2 => k_is); (case ph2 => k_is); (case pi2 => k_is); (case pj2 => k_is); (case pk2 => k_is); (case pl2 => k_is)
      (case pa3 => k_is); (case pb3 => k_is); (case pc3 => k_exc); (case pd3 => k_is); (case pe3 => k_is); (case pf3 => k_is); (case pg3 => k_is); (case ph3 => k_is); (case pi3 => k_is); (case pj3 => k_is); (case pk3 => k_is); (case pl3 => k_is)
      (case pa4 => k_is); (case pb4 => k_is); (case pc4 => k_exc); (case pd4 => k_is); (case pe4 => k_is); (case pf4 => k_is); (case pg4 => k_is); (case ph4 => k_is); (case pi4 => k_is); (case pj4 => k_is); (case pk4 => k_is); (case pl4 => k_is)
      (case pa5 => k_is); (case pb5 => k_is); (case pc5 => k_exc); (case pd5 => k_is); (case pe5 => k_is); (case pf5 => k_is); (case pg5 => k_is); (case ph5 => k_is); (case pi5 => k_is); (case pj5 => k_is); (case pk5 => k_is); (case pl5 => k_is)
      (case pa6 => k_is); (case pb6 => k_is); (case pc6 => k_exc); (case pd6 => k_is); (case pe6 => k_is); (case pf6 => k_is); (case pg6 => k_is); (case ph6 => k_is); (case pi6 => k_is); (case pj6 => k_is); (case pk6 => k_is); (case pl6 => k_is)
      (case pa7 => k_is); (case pb7 => k_is); (case pc7 => k_exc); (case pd7 => k_is); (case pe7 => k_is); (case pf7 => k_is); (case pg7 => k_is); (case ph7 => k_is); (case pi7 => k_is); (case pj7 => k_is); (case pk7 => k_is); (case pl7 => k_is)
      case qN => decide
      case qM =>
        refine' PI.matF_cons (PI.rowF_cons ?qm0_0 (PI.rowF_cons ?qm0_1 (PI.rowF_cons ?qm0_2 (PI.rowF_cons ?qm0_3 (PI.rowF_cons ?qm0_4 (PI.rowF_cons ?qm0_5 (PI.rowF_cons ?qm0_6 (PI.rowF_cons ?qm0_7 (PI.rowF_nil))))))))) (PI.matF_cons (PI.rowF_cons ?qm1_0 (PI.rowF_cons ?qm1_1 (PI.rowF_cons ?qm1_2 (PI.rowF_cons ?qm1_3 (PI.rowF_cons ?qm1_4 (PI.rowF_cons ?qm1_5 (PI.rowF_cons ?qm1_6 (PI.rowF_cons ?qm1_7 (PI.rowF_nil))))))))) (PI.matF_cons (PI.rowF_cons ?qm2_0 (PI.rowF_cons ?qm2_1 (PI.rowF_cons ?qm2_2 (PI.rowF_cons ?qm2_3 (PI.rowF_cons ?qm2_4 (PI.rowF_cons ?qm2_5 (PI.rowF_cons ?qm2_6 (PI.rowF_cons ?qm2_7 (PI.rowF_nil))))))))) (PI.matF_cons (PI.rowF_cons ?qm3_0 (PI.rowF_cons ?qm3_1 (PI.rowF_cons ?qm3_2 (PI.rowF_cons ?qm3_3 (PI.rowF_cons ?qm3_4 (PI.rowF_cons ?qm3_5 (PI.rowF_cons ?qm3_6 (PI.rowF_cons ?qm3_7 (PI.rowF_nil))))))))) (PI.matF_cons (PI.rowF_cons ?qm4_0 (PI.rowF_cons ?qm4_1 (PI.rowF_cons ?qm4_2 (PI.rowF_cons ?qm4_3 (PI.rowF_cons ?qm4_4 (PI.rowF_cons ?qm4_5 (PI.rowF_cons ?qm4_6 (PI.rowF_cons ?qm4_7 (PI.rowF_nil))))))))) (PI.matF_cons (PI.rowF_cons ?qm5_0 (PI.rowF_cons ?qm5_1 (PI.rowF_cons ?qm5_2 (PI.rowF_cons ?qm5_3 (PI.rowF_cons ?qm5_4 (PI.rowF_cons ?qm5_5 (PI.rowF_cons ?qm5_6 (PI.rowF_cons ?qm5_7 (PI.rowF_nil))))))))) (PI.matF_cons (PI.rowF_cons ?qm6_0 (PI.rowF_cons ?qm6_1 (PI.rowF_cons ?qm6_2 (PI.rowF_cons ?qm6_3 (PI.rowF_cons ?qm6_4 (PI.rowF_cons ?qm6_5 (PI.rowF_cons ?qm6_6 (PI.rowF_cons ?qm6_7 (PI.rowF_nil))))))))) (PI.matF_cons (PI.rowF_cons ?qm7_0 (PI.rowF_cons ?qm7_1 (PI.rowF_cons ?qm7_2 (PI.rowF_cons ?qm7_3 (PI.rowF_cons ?qm7_4 (PI.rowF_cons ?qm7_5 (PI.rowF_cons ?qm7_6 (PI.rowF_cons ?qm7_7 (PI.rowF_nil))))))))) (PI.matF_nil))))))))
        (case qm0_0 => k_is); (case qm0_1 => k_is); (case qm0_2 => k_is); (case qm0_3 => k_is); (case qm0_4 => k_is); (case qm0_5 => k_is); (case qm0_6 => k_is); (case qm0_7 => k_is)
        (case qm1_0 => k_is); (case qm1_1 => k_is); (case qm1_2 => k_is); (case qm1_3 => k_is); (case qm1_4 => k_is); (case qm1_5 => k_is); (case qm1_6 => k_is); (case qm1_7 => k_is)
        (case qm2_0 => k_is); (case qm2_1 => k_is); (case qm2_2 => k_is); (case qm2_3 => k_is); (case qm2_4 => k_is); (case qm2_5 => k_is); (case qm2_6 => k_is); (case qm2_7 => k_is)
        (case qm3_0 => k_is); (case qm3_1 => k_is); (case qm3_2 => k_is); (case qm3_3 => k_is); (case qm3_4 => k_is); (case qm3_5 => k_is); (case qm3_6 => k_is); (case qm3_7 => k_is)
        (case qm4_0 => k_is); (case qm4_1 => k_is); (case qm4_2 => k_is); (case qm4_3 => k_is); (case qm4_4 => k_is); (case qm4_5 => k_is); (case qm4_6 => k_is); (case qm4_7 => k_is)
        (case qm5_0 => k_is); (case qm5_1 => k_is); (case qm5_2 => k_is); (case qm5_3 => k_is); (case qm5_4 => k_is); (case qm5_5 => k_is); (case qm5_6 => k_is); (case qm5_7 => k_is)
        (case qm6_0 => k_is); (case qm6_1 => k_is); (case qm6_2 => k_is); (case qm6_3 => k_is); (case qm6_4 => k_is); (case qm6_5 => k_is); (case qm6_6 => k_is); (case qm6_7 => k_is)
        (case qm7_0 => k_is); (case qm7_1 => k_is); (case qm7_2 => k_is); (case qm7_3 => k_is); (case qm7_4 => k_is); (case qm7_5 => k_is); (case qm7_6 => k_is); (case qm7_7 => k_is)
    case con =>
      intro x d e
      simp only [K02.cons, List.lookup_cons, List.lookup_nil] at e
      split at e
      · rename_i hx; obtain rfl := eq_of_beq hx; cases e; refine' PI.con_int ?qz0; (case qz0 => k_is)
      split at e
      · rename_i hx; obtain rfl := eq_of_beq hx; cases e; refine' PI.con_int ?qz1; (case qz1 => k_is)
      split at e
      · rename_i hx; obtain rfl := eq_of_beq hx; cases e; refine' PI.con_int ?qz2; (case qz2 => k_is)
      · cases e
    case blt =>
      simp only [PI.bltNames, List.forall_mem_cons]
      refine' ⟨?qn0, ?qn1, ?qn2, ?qn3, ?qn4, ?qn5, ?qn6, ?qn7, ?qn8, ?qn9, ?qn10, ?qn11, ?qn12, ?qn13, ?qn14, ?qn15, ?qn16, ?qn17, fun _ z => absurd z List.not_mem_nil⟩
      (case qn0 => k_is); (case qn1 => k_is); (case qn2 => k_is); (case qn3 => k_is); (case qn4 => k_is); (case qn5 => k_is); (case qn6 => k_is); (case qn7 => k_is); (case qn8 => k_is); (case qn9 => k_is); (case qn10 => k_is); (case qn11 => k_is); (case qn12 => k_is); (case qn13 => k_is); (case qn14 => k_is); (case qn15 => k_is); (case qn16 => k_is); (case qn17 => k_is)
