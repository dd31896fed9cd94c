import PyProof.Rows.All
import PySem.Syntax
import HandS.ForMost
import HandS.Exc
import HandS.TupLe
import HandS.TupAny
import HandS.TupMul
import HandS.Style
import HandS.IsInst
import HandS.Wide
import HandS.WordsExc
import KE.KDictKeyed
import HandS.TupLen
import HandS.Conv
import KE.KDictCopyH
import HandS.StrMore
import HandS.RaiseMore
import HandS.Zip
import HandS.Walk
import KE.KDictWalk
import KE.GoesEnum
import HandS.HeadHook4
import HandS.HeadEnd
import HandS.Defaults
import HandS.Head0
import HandS.Head1
import HandS.Head2
import HandS.HeadHook1
import HandS.HeadHook2
import PySem.Challenge.RW_layersheld_k45_whole_chunks_by_marks
set_option Elab.async false
set_option linter.all false
set_option maxRecDepth 100000
set_option maxHeartbeats 4000000
/-! Ly: a pure evaluator over trees. Values, the store, the terms, the evaluator. -/
namespace Ly
open PySem

/-- a value: scalars, tuples; lists, dicts and sets that nobody changes (as trees); an object that may change (by its number in the store); a def of the text; a built-in type -/
inductive D where
  | non | bl (b : Bool) | int (i : Int) | str (s : Str)
  | tup (xs : List D) | lst (xs : List D) | dct (kvs : List (D × D)) | set (xs : List D)
  | ref (n : Nat) | fn (x : Str) | ty (n : String)
instance : Inhabited D := ⟨.non⟩

/-! ### structural equality -/
mutual
def D.beq : D → D → Bool
  | .non, .non => true
  | .bl a, .bl b => a == b
  | .int a, .int b => a == b
  | .str a, .str b => a == b
  | .tup a, .tup b => D.beqs a b
  | .lst a, .lst b => D.beqs a b
  | .set a, .set b => D.beqs a b
  | .dct a, .dct b => D.beqp a b
  | .ref a, .ref b => a == b
  | .fn a, .fn b => a == b
  | .ty a, .ty b => a == b
  | _, _ => false
def D.beqs : List D → List D → Bool
  | [], [] => true
  | x :: xs, y :: ys => D.beq x y && D.beqs xs ys
  | _, _ => false
def D.beqp : List (D × D) → List (D × D) → Bool
  | [], [] => true
  | (k, v) :: xs, (l, w) :: ys => D.beq k l && (D.beq v w && D.beqp xs ys)
  | _, _ => false
end
mutual
theorem D.beq_iff : ∀ a b : D, D.beq a b = true ↔ a = b
  | .non, b => by cases b <;> simp [D.beq]
  | .bl x, b => by cases b <;> simp [D.beq]
  | .int x, b => by cases b <;> simp [D.beq]
  | .str x, b => by cases b <;> simp [D.beq]
  | .ref x, b => by cases b <;> simp [D.beq]
  | .fn x, b => by cases b <;> simp [D.beq]
  | .ty x, b => by cases b <;> simp [D.beq]
  | .tup x, b => by cases b <;> simp [D.beq, D.beqs_iff x]
  | .lst x, b => by cases b <;> simp [D.beq, D.beqs_iff x]
  | .set x, b => by cases b <;> simp [D.beq, D.beqs_iff x]
  | .dct x, b => by cases b <;> simp [D.beq, D.beqp_iff x]
theorem D.beqs_iff : ∀ a b : List D, D.beqs a b = true ↔ a = b
  | [], b => by cases b <;> simp [D.beqs]
  | x :: xs, b => by cases b <;> simp [D.beqs, D.beq_iff x, D.beqs_iff xs]
theorem D.beqp_iff : ∀ a b : List (D × D), D.beqp a b = true ↔ a = b
  | [], b => by cases b <;> simp [D.beqp]
  | (k, v) :: xs, b => by
    cases b with
    | nil => simp [D.beqp]
    | cons p ys => obtain ⟨l, w⟩ := p; simp [D.beqp, D.beq_iff k, D.beq_iff v, D.beqp_iff xs, and_assoc]
end
instance : DecidableEq D := fun a b => decidable_of_iff _ (D.beq_iff a b)
/-- what may stand in the store -/
inductive MO where
  | lst (xs : List D) | dct (kvs : List (D × D)) | ins (c : Str) (fs : List (Str × D)) | dead
  deriving DecidableEq
abbrev Sto := List MO
abbrev Env := List (Option D)

/-! ### Python's == -/
def b2n (b : Bool) : Int := if b then 1 else 0
mutual
def D.eqv : D → D → Bool
  | .non, .non => true
  | .bl a, .bl b => a == b
  | .bl a, .int j => b2n a == j
  | .int i, .bl b => i == b2n b
  | .int i, .int j => i == j
  | .str x, .str y => x == y
  | .tup xs, .tup ys => D.eqvs xs ys
  | .lst xs, .lst ys => D.eqvs xs ys
  | _, _ => false
def D.eqvs : List D → List D → Bool
  | [], [] => true
  | x :: xs, y :: ys => D.eqv x y && D.eqvs xs ys
  | _, _ => false
end
mutual
/-- data without objects, dicts, sets -/
def D.plain : D → Bool
  | .non => true | .bl _ => true | .int _ => true | .str _ => true
  | .tup xs => D.plains xs
  | .lst xs => D.plains xs
  | _ => false
def D.plains : List D → Bool
  | [] => true
  | x :: xs => D.plain x && D.plains xs
end
mutual
def D.depth : D → Nat
  | .tup xs => D.depths xs + 1
  | .lst xs => D.depths xs + 1
  | _ => 0
def D.depths : List D → Nat
  | [] => 0
  | x :: xs => max (D.depth x) (D.depths xs)
end
def eqOk (a b : D) : Bool := a.plain && b.plain && decide (min a.depth b.depth ≤ 60)

/-! ### order -/
def strLt (a b : Str) : Bool := decide (a.cps.toList < b.cps.toList)
mutual
/-- whether < of two values is told -/
def D.ltOk : D → D → Bool
  | .int _, .int _ => true
  | .str _, .str _ => true
  | .tup xs, .tup ys => D.ltOks xs ys
  | _, _ => false
def D.ltOks : List D → List D → Bool
  | x :: xs, y :: ys => x.plain && y.plain && (if D.eqv x y then D.ltOks xs ys else D.ltOk x y)
  | _, _ => true
end
mutual
def D.lt : D → D → Bool
  | .int i, .int j => decide (i < j)
  | .str x, .str y => strLt x y
  | .tup xs, .tup ys => D.lts xs ys
  | _, _ => false
def D.lts : List D → List D → Bool
  | [], [] => false
  | [], _ :: _ => true
  | _ :: _, [] => false
  | x :: xs, y :: ys => if D.eqv x y then D.lts xs ys else D.lt x y
end
def insD (x : D) : List D → List D
  | [] => [x]
  | y :: ys => if D.lt x y then x :: y :: ys else y :: insD x ys
/-- a stable sort -/
def sortD (xs : List D) : List D := xs.foldl (fun acc x => insD x acc) []
def sortOk (xs : List D) : Bool := xs.all fun x => xs.all fun y => D.ltOk x y && decide (min x.depth y.depth ≤ 60)

/-! ### results -/
inductive Re (α : Type) where
  | ok (a : α) (S : Sto) | exc (c : Str) (fs : List (Str × D)) (S : Sto) | bad
def Re.bind {α β : Type} (r : Re α) (f : α → Sto → Re β) : Re β :=
  match r with
  | .ok a S => f a S
  | .exc c fs S => .exc c fs S
  | .bad => .bad
def lift {α : Type} (o : Option α) (S : Sto) : Re α :=
  match o with
  | some a => .ok a S
  | none => .bad

/-! ### operators -/
inductive Bop where | add | sub | mul | fdiv | mod | pow
  deriving DecidableEq
inductive Cop where | eq | ne | lt | le | gt | ge | is_ | isnot | in_ | notin
  deriving DecidableEq
def line : Nat := 16777216
def mulOk (i j : Int) : Bool := decide (i.natAbs < 2 ^ 64) || decide (j.natAbs < 2 ^ 64) || decide (i.natAbs.log2 + j.natAbs.log2 < 1000000)
def divOk (j : Int) : Bool := decide (0 < j) && (decide (j < 1073741824) || decide (j.natAbs.log2 < 9000))
def powOk (i j : Int) : Bool := decide (0 ≤ j) && decide (j ≤ 1000) && decide (i.natAbs < 2 ^ 64)
/-- what stands at a value: an object's content as a tree -/
def view (S : Sto) : D → D
  | .ref n => match S[n]? with
    | some (.lst xs) => .lst xs
    | some (.dct kvs) => .dct kvs
    | _ => .ref n
  | d => d
def rep (xs : List D) (k : Int) : List D := (List.replicate k.toNat xs).flatten
def repS (s : Str) (k : Int) : Str := ⟨((List.replicate k.toNat s.cps.toList).flatten).toArray⟩
def binop : Bop → D → D → Option D
  | .add, .int i, .int j => some (.int (i + j))
  | .add, .str x, .str y => if x.length + y.length ≤ line then some (.str (x ++ y)) else none
  | .add, .tup xs, .tup ys => if xs.length + ys.length ≤ line then some (.tup (xs ++ ys)) else none
  | .add, .lst xs, .lst ys => if xs.length + ys.length ≤ line then some (.lst (xs ++ ys)) else none
  | .sub, .int i, .int j => some (.int (i - j))
  | .mul, .int i, .int j => if mulOk i j then some (.int (i * j)) else none
  | .mul, .tup xs, .int k => if k.natAbs < 2 ^ 62 ∧ xs.length * k.toNat ≤ line then some (.tup (rep xs k)) else none
  | .mul, .lst xs, .int k => if k.natAbs < 2 ^ 62 ∧ xs.length * k.toNat ≤ line then some (.lst (rep xs k)) else none
  | .mul, .str s, .int k => if k.natAbs < 2 ^ 62 ∧ s.length * k.toNat ≤ line then some (.str (repS s k)) else none
  | .fdiv, .int i, .int j => if divOk j then some (.int (i / j)) else none
  | .mod, .int i, .int j => if 0 < j then some (.int (i % j)) else none
  | .pow, .int i, .int j => if powOk i j then some (.int (i ^ j.toNat)) else none
  | _, _, _ => none
def memD (x : D) (xs : List D) : Bool := xs.any fun y => D.eqv y x
def inOk (x : D) (xs : List D) : Bool := x.plain && D.plains xs && decide (x.depth ≤ 60)
mutual
/-- keys of dicts and sets: ints, texts; tuples of ints, texts, None, such tuples -/
def D.kd : D → Bool
  | .int _ => true | .str _ => true | .non => true
  | .tup xs => D.kds xs
  | _ => false
def D.kds : List D → Bool
  | [] => true
  | x :: xs => D.kd x && D.kds xs
end
def D.isSc : D → Bool
  | .int _ => true | .str _ => true
  | _ => false
def D.isKey : D → Bool
  | .int _ => true | .str _ => true
  | .tup xs => D.kds xs && decide (D.depths xs < 8)
  | _ => false
/-- a key of the sort of those that are there -/
def kOk (k : D) : List (D × D) → Bool
  | [] => k.isKey
  | p :: _ => k.isKey && (k.isSc == p.1.isSc)
def look (k : D) : List (D × D) → Option D
  | [] => none
  | (l, v) :: r => if l = k then some v else look k r
def put (k v : D) : List (D × D) → List (D × D)
  | [] => [(k, v)]
  | (l, w) :: r => if l = k then (l, v) :: r else (l, w) :: put k v r
def del (k : D) : List (D × D) → List (D × D)
  | [] => []
  | (l, w) :: r => if l = k then r else (l, w) :: del k r
def cmpop : Cop → D → D → Option Bool
  | .eq, a, b => if eqOk a b then some (D.eqv a b) else none
  | .ne, a, b => if eqOk a b then some (!D.eqv a b) else none
  | .lt, a, b => if D.ltOk a b && eqOk a b then some (D.lt a b) else none
  | .gt, .int i, .int j => some (decide (j < i))
  | .gt, .str i, .str j => some (strLt j i)
  | .le, .int i, .int j => some (decide (i ≤ j))
  | .ge, .int i, .int j => some (decide (j ≤ i))
  | .is_, a, .non => some (decide (a = .non))
  | .isnot, a, .non => some (!decide (a = .non))
  | .is_, a, .bl b => some (decide (a = .bl b))
  | .isnot, a, .bl b => some (!decide (a = .bl b))
  | .in_, x, .tup xs => if inOk x xs then some (memD x xs) else none
  | .notin, x, .tup xs => if inOk x xs then some (!memD x xs) else none
  | .in_, x, .lst xs => if inOk x xs then some (memD x xs) else none
  | .notin, x, .lst xs => if inOk x xs then some (!memD x xs) else none
  | .in_, x, .dct kvs => if kOk x kvs then some (look x kvs).isSome else none
  | .notin, x, .dct kvs => if kOk x kvs then some (!(look x kvs).isSome) else none
  | .in_, .str x, .str y => if x.length = 1 then some (y.cps.toList.any fun c => x.cps.toList.head? == some c) else none
  | .notin, .str x, .str y => if x.length = 1 then some (!y.cps.toList.any fun c => x.cps.toList.head? == some c) else none
  | _, _, _ => none

/-! ### places and slices -/
def ixAt (n : Nat) (i : Int) : Option Nat := if 0 ≤ i then (if i < n then some i.toNat else none) else if -(n : Int) ≤ i then some (i + n).toNat else none
def atI {α : Type} (xs : List α) (i : Int) : Option α := (ixAt xs.length i).bind fun j => xs[j]?
def idx : D → D → Option D
  | .tup xs, .int i => atI xs i
  | .lst xs, .int i => atI xs i
  | .str s, .int i => if s.length ≤ line then (atI s.cps.toList i).map fun c => .str ⟨#[c]⟩ else none
  | .dct kvs, k => if kOk k kvs then look k kvs else none
  | _, _ => none
def sIx (n d : Nat) : Option Int → Nat
  | none => d
  | some v => if v < 0 then (v + n).toNat else min v.toNat n
def cut {α : Type} (xs : List α) (lo hi : Option Int) : List α := (xs.drop (sIx xs.length 0 lo)).take (sIx xs.length xs.length hi - sIx xs.length 0 lo)
def slice : D → Option Int → Option Int → Option D
  | .tup xs, lo, hi => some (.tup (cut xs lo hi))
  | .lst xs, lo, hi => some (.lst (cut xs lo hi))
  | .str s, lo, hi => if s.length ≤ line then some (.str ⟨(cut s.cps.toList lo hi).toArray⟩) else none
  | _, _, _ => none
def revD : D → Option D
  | .tup xs => some (.tup xs.reverse)
  | .lst xs => some (.lst xs.reverse)
  | _ => none

/-! ### what is walked -/
def items : D → Option (List D)
  | .tup xs => some xs
  | .lst xs => some xs
  | .str s => if s.length ≤ line then some (s.cps.toList.map fun c => .str ⟨#[c]⟩) else none
  | .dct kvs => some (kvs.map (·.1))
  | _ => none
def rangeD (i j : Int) : List D := (List.range (j - i).toNat).map fun (k : Nat) => .int (i + (k : Int))
def rangeN (i j : Int) : List D := (List.range (i - j).toNat).map fun (k : Nat) => .int (i + (k : Int) * (-1))
def intOk (i : Int) : Bool := decide (-(2 ^ 62) ≤ i) && decide (i < 2 ^ 62)
def rangeOf : List D → Option (List D)
  | [.int j] => if intOk j then some (rangeD 0 j) else none
  | [.int i, .int j] => if intOk i && intOk j then some (rangeD i j) else none
  | [.int i, .int j, .int c] => if intOk i && intOk j && decide (c = -1) then some (rangeN i j) else none
  | _ => none
def zipD : List D → List D → List D
  | x :: xs, y :: ys => .tup [x, y] :: zipD xs ys
  | _, _ => []
def enumD : Nat → List D → List D
  | _, [] => []
  | i, x :: xs => .tup [.int i, x] :: enumD (i + 1) xs

/-! ### built-in functions -/
inductive Bi where
  | len | tuple | list | isInt | isBool | isStr | isTuple | isList | int | all | any | sorted | abs | str | dict | set | sum | min | max
  | listItems | sortedItems | sumValues
  deriving DecidableEq
def allBl : List D → Option (List Bool)
  | [] => some []
  | .bl b :: r => (allBl r).map (b :: ·)
  | _ => none
def allInt : List D → Option (List Int)
  | [] => some []
  | .int i :: r => (allInt r).map (i :: ·)
  | _ => none
def pairs : List D → Option (List (D × D))
  | [] => some []
  | .tup [k, v] :: r => if k.isKey then (pairs r).map ((k, v) :: ·) else none
  | _ => none
/-- all keys of one sort -/
def oneSort : List (D × D) → Bool
  | [] => true
  | p :: r => r.all fun q => q.1.isSc == p.1.isSc
def putAll (kvs : List (D × D)) (ps : List (D × D)) : List (D × D) := ps.foldl (fun m p => put p.1 p.2 m) kvs
def addSet (xs : List D) (x : D) : List D := if x ∈ xs then xs else xs ++ [x]
def itemsD (kvs : List (D × D)) : List D := kvs.map fun p => .tup [p.1, p.2]
def minI : List Int → Option Int
  | [] => none
  | x :: xs => some (xs.foldl (fun m y => if y < m then y else m) x)
def maxI : List Int → Option Int
  | [] => none
  | x :: xs => some (xs.foldl (fun m y => if y > m then y else m) x)
def isScalar : D → Bool
  | .non => true | .bl _ => true | .int _ => true | .str _ => true | .tup _ => true | .lst _ => true
  | _ => false
def builtin : Bi → List D → Option D
  | .len, [.tup xs] => some (.int xs.length)
  | .len, [.lst xs] => some (.int xs.length)
  | .len, [.dct xs] => some (.int xs.length)
  | .len, [.set xs] => some (.int xs.length)
  | .len, [.str s] => if s.length ≤ line then some (.int s.length) else none
  | .tuple, [.tup xs] => some (.tup xs)
  | .tuple, [.lst xs] => some (.tup xs)
  | .list, [.tup xs] => some (.lst xs)
  | .list, [.lst xs] => some (.lst xs)
  | .list, [.dct kvs] => some (.lst (kvs.map (·.1)))
  | .tuple, [.dct kvs] => some (.tup (kvs.map (·.1)))
  | .isInt, [d] => if isScalar d then some (.bl (match d with | .int _ => true | .bl _ => true | _ => false)) else none
  | .isBool, [d] => if isScalar d then some (.bl (match d with | .bl _ => true | _ => false)) else none
  | .isStr, [d] => if isScalar d then some (.bl (match d with | .str _ => true | _ => false)) else none
  | .isTuple, [d] => if isScalar d then some (.bl (match d with | .tup _ => true | _ => false)) else none
  | .isList, [d] => if isScalar d then some (.bl (match d with | .lst _ => true | _ => false)) else none
  | .int, [.int i] => some (.int i)
  | .int, [.bl b] => some (.int (b2n b))
  | .all, [.lst xs] => (allBl xs).map fun bs => .bl (bs.all id)
  | .any, [.lst xs] => (allBl xs).map fun bs => .bl (bs.any id)
  | .sorted, [.lst xs] => if sortOk xs then some (.lst (sortD xs)) else none
  | .sorted, [.tup xs] => if sortOk xs then some (.lst (sortD xs)) else none
  | .sorted, [.set xs] => if sortOk xs then some (.lst (sortD xs)) else none
  | .sorted, [.dct kvs] => if sortOk (kvs.map (·.1)) then some (.lst (sortD (kvs.map (·.1)))) else none
  | .abs, [.int i] => some (.int (if i < 0 then -i else i))
  | .str, [.str s] => some (.str s)
  | .str, [.int i] => if i.natAbs.log2 < 1920 then some (.str (Str.ofString (toString i))) else none
  | .dict, [.lst xs] => (pairs xs).bind fun ps => if oneSort ps then some (.dct (putAll [] ps)) else none
  | .set, [.lst xs] => if xs.all D.isKey then some (.set (xs.foldl addSet [])) else none
  | .sum, [.lst xs] => (allInt xs).map fun ns => .int ns.sum
  | .min, [.lst xs] => ((allInt xs).bind minI).map .int
  | .max, [.lst xs] => ((allInt xs).bind maxI).map .int
  | .min, [.int i, .int j] => some (.int (if j < i then j else i))
  | .max, [.int i, .int j] => some (.int (if j > i then j else i))
  | .listItems, [.dct kvs] => some (.lst (itemsD kvs))
  | .sortedItems, [.dct kvs] => if sortOk (itemsD kvs) then some (.lst (sortD (itemsD kvs))) else none
  | .sumValues, [.dct kvs] => (allInt (kvs.map (·.2))).map fun ns => .int ns.sum
  | _, _ => none

/-! ### methods of built-in types -/
inductive Me where
  | get | index | count | join | startswith | upper
  deriving DecidableEq
def idxOf (x : D) : List D → Nat → Option Nat
  | [], _ => none
  | y :: ys, n => if D.eqv y x then some n else idxOf x ys (n + 1)
def natIdx (c : Nat) : List Nat → Nat → Option Nat
  | [], _ => none
  | y :: ys, n => if y = c then some n else natIdx c ys (n + 1)
def allStr : List D → Option (List Str)
  | [] => some []
  | .str i :: r => (allStr r).map (i :: ·)
  | _ => none
def meth : Me → D → List D → Option D
  | .get, .dct kvs, [k] => if kOk k kvs then some ((look k kvs).getD .non) else none
  | .get, .dct kvs, [k, d] => if kOk k kvs then some ((look k kvs).getD d) else none
  | .index, .str s, [.str x] => if x.length = 1 && decide (s.length ≤ line) then (natIdx (x.cps.getD 0 0) s.cps.toList 0).map (fun (n : Nat) => D.int (n : Int)) else none
  | _, _, _ => none

def meOk : Me → D → Bool
  | .index, .str _ => true
  | _, _ => false

/-! ### terms -/
inductive Tg where
  | nm (i : Nat) | tup (ts : List Tg)
/-- what is walked: a value, range(..), zip(a, b), enumerate(a), a.items(), a.values() -/
inductive Ik where | ex | range | zip | enum | items | values
  deriving DecidableEq
inductive Ex where
  | cst (d : D) | loc (i : Nat)
  | bin (o : Bop) (a b : Ex) | neg (a : Ex) | not_ (a : Ex)
  | cmp (o : Cop) (a b : Ex) | chain (o1 o2 : Cop) (a b c : Ex)
  | and_ (a b : Ex) | or_ (a b : Ex) | ite (c a b : Ex)
  | tup (es : List Ex) | lst (es : List Ex) | new (es : List Ex)
  | call (f : Str) (es : List Ex) | bi (b : Bi) (es : List Ex) | me (m : Me) (o : Ex) (es : List Ex)
  | idx (a i : Ex) | slc (a : Ex) (lo hi : Option Ex) | rev (a : Ex)
  | comp (vs : List Nat) (tg : Tg) (k : Ik) (es : List Ex) (c : Option Ex) (e : Ex)
inductive St where
  | asg (t : Tg) (e : Ex) | ex (e : Ex) | ret (e : Ex) | retN | pass | brk | cnt | never
  | app (i : Nat) (e : Ex) | setR (o k v : Ex)
  | ite (c : Ex) (a b : List St) | for_ (tg : Tg) (k : Ik) (es : List Ex) (b : List St) | while_ (c : Ex) (b : List St)

/-! ### the evaluator -/
mutual
def Tg.put : Tg → D → Env → Option Env
  | .nm i, d, en => some (en.set i (some d))
  | .tup ts, .tup ds, en => Tg.puts ts ds en
  | .tup _, _, _ => none
def Tg.puts : List Tg → List D → Env → Option Env
  | [], [], en => some en
  | t :: ts, d :: ds, en => (Tg.put t d en).bind fun en => Tg.puts ts ds en
  | _, _, _ => none
end
def wipeE (en : Env) : List Nat → Env
  | [] => en
  | v :: vs => (wipeE en vs).set v none
/-- what a walk gives, from the values of its parts -/
def walk (S : Sto) : Ik → List D → Option (List D)
  | .ex, [.ref n] => match view S (.ref n) with
    | .lst xs => some xs
    | _ => none
  | .ex, [d] => items d
  | .range, ds => (rangeOf ds).bind fun xs => if xs.length ≤ line then some xs else none
  | .zip, [a, b] => match view S a, view S b with
    | .lst xs, .lst ys => some (zipD xs ys)
    | .tup xs, .tup ys => some (zipD xs ys)
    | _, _ => none
  | .enum, [a] => match view S a with
    | .lst xs => some (enumD 0 xs)
    | .tup xs => some (enumD 0 xs)
    | _ => none
  | .items, [.dct kvs] => some (itemsD kvs)
  | .values, [.dct kvs] => some (kvs.map (·.2))
  | _, _ => none
/-- the objects that are walked, as they stand -/
def watch (S : Sto) : List D → List (Nat × Option MO)
  | [] => []
  | .ref n :: r => (n, S[n]?) :: watch S r
  | _ :: r => watch S r
def still (S : Sto) (w : List (Nat × Option MO)) : Bool := w.all fun p => decide (S[p.1]? = p.2)
def compLoop (f : D → Sto → Re (Option D)) (w : List (Nat × Option MO)) : List D → List D → Sto → Re D
  | [], acc, S => .ok (.lst acc) S
  | x :: xs, acc, S => match f x S with
    | .ok r S' => if still S' w then compLoop f w xs (match r with | some y => acc ++ [y] | none => acc) S' else .bad
    | _ => .bad
inductive Fl where
  | nx | ret (d : D) | brk | cnt
def forLoop (f : D → Env → Sto → Re (Fl × Env)) (w : List (Nat × Option MO)) : List D → Env → Sto → Re (Fl × Env)
  | [], en, S => .ok (.nx, en) S
  | x :: xs, en, S => match f x en S with
    | .ok (.nx, en') S' => if still S' w then forLoop f w xs en' S' else .bad
    | .ok (.cnt, en') S' => if still S' w then forLoop f w xs en' S' else .bad
    | .ok (.brk, en') S' => .ok (.nx, en') S'
    | .ok (.ret d, en') S' => .ok (.ret d, en') S'
    | .exc c fs S' => .exc c fs S'
    | .bad => .bad
def whileLoop (c : Env → Sto → Re D) (f : Env → Sto → Re (Fl × Env)) : Nat → Env → Sto → Re (Fl × Env)
  | 0, _, _ => .bad
  | n + 1, en, S => match c en S with
    | .ok (.bl false) S' => .ok (.nx, en) S'
    | .ok (.bl true) S' => match f en S' with
      | .ok (.nx, en') S'' => whileLoop c f n en' S''
      | .ok (.cnt, en') S'' => whileLoop c f n en' S''
      | .ok (.brk, en') S'' => .ok (.nx, en') S''
      | .ok (.ret d, en') S'' => .ok (.ret d, en') S''
      | .exc c fs S'' => .exc c fs S''
      | .bad => .bad
    | .exc c fs S' => .exc c fs S'
    | _ => .bad
abbrev CF := Str → List D → Sto → Re D
mutual
def evE (cf : CF) : Ex → Env → Sto → Re D
  | .cst d, _, S => .ok d S
  | .loc i, en, S => match en[i]? with
    | some (some d) => .ok d S
    | _ => .bad
  | .bin o a b, en, S => (evE cf a en S).bind fun x S => (evE cf b en S).bind fun y S => lift (binop o (view S x) (view S y)) S
  | .neg a, en, S => (evE cf a en S).bind fun x S => match x with
    | .int i => .ok (.int (-i)) S
    | _ => .bad
  | .not_ a, en, S => (evE cf a en S).bind fun x S => match x with
    | .bl b => .ok (.bl (!b)) S
    | _ => .bad
  | .cmp o a b, en, S => (evE cf a en S).bind fun x S => (evE cf b en S).bind fun y S => lift ((cmpop o (view S x) (view S y)).map .bl) S
  | .chain o1 o2 a b c, en, S => (evE cf a en S).bind fun x S => (evE cf b en S).bind fun y S => match cmpop o1 (view S x) (view S y) with
    | some true => (evE cf c en S).bind fun z S => lift ((cmpop o2 (view S y) (view S z)).map .bl) S
    | some false => .ok (.bl false) S
    | none => .bad
  | .and_ a b, en, S => (evE cf a en S).bind fun x S => match x with
    | .bl true => evE cf b en S
    | .bl false => .ok (.bl false) S
    | _ => .bad
  | .or_ a b, en, S => (evE cf a en S).bind fun x S => match x with
    | .bl true => .ok (.bl true) S
    | .bl false => evE cf b en S
    | _ => .bad
  | .ite c a b, en, S => (evE cf c en S).bind fun x S => match x with
    | .bl true => evE cf a en S
    | .bl false => evE cf b en S
    | _ => .bad
  | .tup es, en, S => (evEs cf es en S).bind fun xs S => if xs.length ≤ line then .ok (.tup xs) S else .bad
  | .lst es, en, S => (evEs cf es en S).bind fun xs S => if xs.length ≤ line then .ok (.lst xs) S else .bad
  | .new es, en, S => (evEs cf es en S).bind fun xs S => if xs.length ≤ line then .ok (.ref S.length) (S ++ [.lst xs]) else .bad
  | .call f es, en, S => (evEs cf es en S).bind fun xs S => cf f xs S
  | .bi b es, en, S => (evEs cf es en S).bind fun xs S => lift (builtin b (xs.map (view S))) S
  | .me m o es, en, S => (evE cf o en S).bind fun x S => if meOk m (view S x) then (evEs cf es en S).bind fun xs S => lift (meth m (view S x) xs) S else .bad
  | .idx a i, en, S => (evE cf a en S).bind fun x S => (evE cf i en S).bind fun y S => lift (idx (view S x) y) S
  | .slc a lo hi, en, S => (evE cf a en S).bind fun x S => (evO cf lo en S).bind fun l S => (evO cf hi en S).bind fun h S => lift (slice (view S x) l h) S
  | .rev a, en, S => (evE cf a en S).bind fun x S => lift (revD (view S x)) S
  | .comp vs tg k es c e, en, S => (evEs cf es en S).bind fun ds S => match walk S k ds with
    | none => .bad
    | some xs => if xs.length ≤ line then compLoop (fun x S => match tg.put x (wipeE en vs) with
      | none => .bad
      | some en' => (evC cf c en' S).bind fun b S => if b then (evE cf e en' S).bind fun y S => .ok (some y) S else .ok none S) (watch S ds) xs [] S else .bad
def evEs (cf : CF) : List Ex → Env → Sto → Re (List D)
  | [], _, S => .ok [] S
  | e :: es, en, S => (evE cf e en S).bind fun x S => (evEs cf es en S).bind fun xs S => .ok (x :: xs) S
def evO (cf : CF) : Option Ex → Env → Sto → Re (Option Int)
  | none, _, S => .ok none S
  | some e, en, S => (evE cf e en S).bind fun x S => match x with
    | .int i => .ok (some i) S
    | _ => .bad
def evC (cf : CF) : Option Ex → Env → Sto → Re Bool
  | none, _, S => .ok true S
  | some e, en, S => (evE cf e en S).bind fun x S => match x with
    | .bl b => .ok b S
    | _ => .bad
end
/-- o[k] = v of an object -/
def setRef (S : Sto) : D → D → D → Option Sto
  | .ref n, k, v => match S[n]?, k with
    | some (.lst xs), .int i => (ixAt xs.length i).map fun j => S.set n (.lst (xs.set j v))
    | _, _ => none
  | _, _, _ => none
def fuel : Nat := 1000000000000
mutual
def evS (cf : CF) : St → Env → Sto → Re (Fl × Env)
  | .asg t e, en, S => (evE cf e en S).bind fun x S => match t.put x en with
    | some en' => .ok (.nx, en') S
    | none => .bad
  | .ex e, en, S => (evE cf e en S).bind fun _ S => .ok (.nx, en) S
  | .ret e, en, S => (evE cf e en S).bind fun x S => .ok (.ret x, en) S
  | .retN, en, S => .ok (.ret .non, en) S
  | .pass, en, S => .ok (.nx, en) S
  | .brk, en, S => .ok (.brk, en) S
  | .cnt, en, S => .ok (.cnt, en) S
  | .never, _, _ => .bad
  | .app i e, en, S => match en[i]? with
    | some (some (.lst xs)) => (evE cf e en S).bind fun x S => if xs.length < line then .ok (.nx, en.set i (some (.lst (xs ++ [x])))) S else .bad
    | _ => .bad
  | .setR o k v, en, S => (evE cf v en S).bind fun z S => (evE cf o en S).bind fun x S => (evE cf k en S).bind fun y S => match setRef S x y z with
    | some S' => .ok (.nx, en) S'
    | none => .bad
  | .ite c a b, en, S => (evE cf c en S).bind fun x S => match x with
    | .bl true => evSs cf a en S
    | .bl false => evSs cf b en S
    | _ => .bad
  | .for_ tg k es b, en, S => (evEs cf es en S).bind fun ds S => match walk S k ds with
    | none => .bad
    | some xs => forLoop (fun x en S => match tg.put x en with
      | none => .bad
      | some en' => evSs cf b en' S) (watch S ds) xs en S
  | .while_ c b, en, S => whileLoop (fun en S => evE cf c en S) (fun en S => evSs cf b en S) fuel en S
def evSs (cf : CF) : List St → Env → Sto → Re (Fl × Env)
  | [], en, S => .ok (.nx, en) S
  | s :: r, en, S => (evS cf s en S).bind fun q S => match q with
    | (.nx, en') => evSs cf r en' S
    | (f, en') => .ok (f, en') S
end

/-- a def: how many parameters, how many slots, its body -/
structure Fn where
  np : Nat
  ns : Nat
  body : List St
abbrev Prog := List (Str × Fn)
def callP (P : Prog) : Nat → CF
  | 0, _, _, _ => .bad
  | k + 1, f, xs, S => match P.lookup f with
    | none => .bad
    | some fn => if xs.length = fn.np then
        match evSs (callP P k) fn.body (xs.map some ++ List.replicate (fn.ns - fn.np) none) S with
        | .ok (.ret d, _) S' => .ok d S'
        | .ok (.nx, _) S' => .ok .non S'
        | .exc c fs S' => .exc c fs S'
        | _ => .bad
      else .bad
end Ly
/-! Ly: how the trees stand in the heap. -/
namespace Ly
open PySem PySem.Spec PyProof.Rows L2

theorem line_eq : line = sizeLine := by rw [sizeLine_eq]; rfl

/-- the module's names; the world (what texts hash to) -/
structure MG where
  m : Str → Option Value
  w : World
/-! ### keys -/
mutual
/-- a key, as the library has it -/
def nk : D → NestedKey
  | .int i => .num i
  | .str s => .text s
  | .tup xs => .tup (nks xs)
  | _ => .none
def nks : List D → List NestedKey
  | [] => []
  | x :: xs => nk x :: nks xs
end
def hashD (w : World) : D → Int
  | .int i => hashInt i
  | .str s => hashStr w s
  | d => (nk d).hash w
/-- a dict's object, as it stands -/
def DictO (a : Addr) (es : List DictEntry) (ep : Nat) : HO := .ext fun h => (a == sysModules) = false ∧ ∃ o, h.get? a = some o ∧ o.ExactDict ∧ o.data = .dict es.toArray ep
/-- a dict's keys: each once, of one sort -/
structure DOk (kvs : List (D × D)) : Prop where
  nd : (kvs.map (·.1)).Nodup
  len : kvs.length ≤ sizeLine
  key : ∀ p ∈ kvs, p.1.isKey = true
  sort : oneSort kvs = true
/-- the places of the store's objects, the addresses that may change, the abstract heap -/
structure Wd where
  ρ : List Addr
  F : Addr → Prop
  H : Hp

section
variable (K : PySem.W.Frag) (mg : MG)
def KLst (a : Addr) (xs : List V) : Prop := ∃ (o : Obj) (its : Array Value) (n : Nat), K.lookup a = some o ∧ o.cls = .type "list" ∧ o.dict = none ∧ o.data = .seq its n ∧ its.size ≤ sizeLine ∧ Vals xs its.toList
def KTup (a : Addr) (xs : List V) : Prop := ∃ (o : Obj) (its : Array Value) (n : Nat), K.lookup a = some o ∧ o.cls = .type "tuple" ∧ o.data = .seq its n ∧ its.size ≤ sizeLine ∧ Vals xs its.toList
/-- a list that nobody changes; a tuple; a dict -/
def LAt (W : Wd) (a : Addr) (xs : List V) : Prop := (Rd W.H a (.lst xs) ∧ ¬ W.F a) ∨ KLst K a xs
def TAt (W : Wd) (a : Addr) (xs : List V) : Prop := (Rd W.H a (.tup xs) ∧ ¬ W.F a) ∨ KTup K a xs
def DAt (W : Wd) (a : Addr) (es : List DictEntry) (ep : Nat) : Prop := Rd W.H a (DictO a es ep) ∧ ¬ W.F a
mutual
inductive RepD (W : Wd) : D → V → Prop
  | non : RepD W .non .non
  | bl (b : Bool) : RepD W (.bl b) (.bl b)
  | int (i : Int) : RepD W (.int i) (.int i)
  | str (s : Str) : RepD W (.str s) (.str s)
  | ty (n : String) : RepD W (.ty n) (.ty n)
  | tup {a : Addr} {vs : List V} {xs : List D} : TAt K W a vs → RepDs W xs vs → RepD W (.tup xs) (.ref a)
  | lst {a : Addr} {vs : List V} {xs : List D} : LAt K W a vs → RepDs W xs vs → RepD W (.lst xs) (.ref a)
  | dct {a : Addr} {es : List DictEntry} {ep : Nat} {kvs : List (D × D)} : DAt W a es ep → Ents W kvs es → DOk kvs → RepD W (.dct kvs) (.ref a)
  | ref {n : Nat} {a : Addr} : W.ρ[n]? = some a → RepD W (.ref n) (.ref a)
  | fn {x : Str} {a : Addr} : mg.m x = some (.ref a) → RepD W (.fn x) (.ref a)
inductive RepDs (W : Wd) : List D → List V → Prop
  | nil : RepDs W [] []
  | cons {d : D} {v : V} {ds : List D} {vs : List V} : RepD W d v → RepDs W ds vs → RepDs W (d :: ds) (v :: vs)
inductive Ents (W : Wd) : List (D × D) → List DictEntry → Prop
  | nil : Ents W [] []
  | cons {k x : D} {a b : V} {e : DictEntry} {kvs : List (D × D)} {es : List DictEntry} : RepD W k a → RelV a e.key → RepD W x b → RelV b e.val → e.hash = hashD mg.w k → Ents W kvs es → Ents W ((k, x) :: kvs) (e :: es)
end
/-- an object of the store -/
def RepO (W : Wd) (a : Addr) : MO → Prop
  | .lst xs => ∃ vs, W.H a = some (.lst vs) ∧ RepDs K mg W xs vs
  | .dct kvs => ∃ es ep, W.H a = some (DictO a es ep) ∧ Ents K mg W kvs es ∧ DOk kvs
  | .ins _ _ => False
  | .dead => True
structure Rep (W : Wd) (S : Sto) : Prop where
  len : W.ρ.length = S.length
  nd : W.ρ.Nodup
  sub : ∀ a ∈ W.ρ, W.F a
  dom : ∀ a, W.F a → W.H a ≠ none
  obj : ∀ (n : Nat) (mo : MO) (a : Addr), S[n]? = some mo → W.ρ[n]? = some a → RepO K mg W a mo
/-- a list, a dict that may still change -/
inductive OwnC (W : Wd) : D → Addr → Prop
  | lst {a : Addr} {vs : List V} {xs : List D} : W.H a = some (.lst vs) → RepDs K mg W xs vs → OwnC W (.lst xs) a
  | dct {a : Addr} {es : List DictEntry} {ep : Nat} {kvs : List (D × D)} : W.H a = some (DictO a es ep) → Ents K mg W kvs es → DOk kvs → OwnC W (.dct kvs) a
/-- a value, or a list, a dict of the def's own that it may still change -/
inductive RepB (W : Wd) : D → V → Prop
  | of {d : D} {v : V} : RepD K mg W d v → RepB W d v
  | own {d : D} {a : Addr} : OwnC K mg W d a → a ∉ W.ρ → RepB W d (.ref a)
inductive RepBs (W : Wd) : List D → List V → Prop
  | nil : RepBs W [] []
  | cons {d : D} {v : V} {ds : List D} {vs : List V} : RepB K mg W d v → RepBs W ds vs → RepBs W (d :: ds) (v :: vs)
end

/-- what goes on: nothing but the store's objects changed; what is new is new -/
structure Ext (W W' : Wd) : Prop where
  keep : ∀ a o, W.H a = some o → a ∉ W.ρ → W'.H a = some o
  pre : W.ρ <+: W'.ρ
  fsub : ∀ a, W.F a → W'.F a
  fnew : ∀ a, W'.F a → W.F a ∨ W.H a = none
  dom : ∀ a, W.H a ≠ none → W'.H a ≠ none
  rnew : ∀ a, a ∈ W'.ρ → a ∈ W.ρ ∨ W.H a = none

section
variable {K : PySem.W.Frag} {mg : MG} {W W' W'' : Wd} {S S' : Sto} {d : D} {v : V} {ds : List D} {vs : List V} {a : Addr}

theorem Ext.refl (W : Wd) : Ext W W := ⟨fun _ _ h _ => h, List.prefix_refl _, fun _ h => h, fun _ h => .inl h, fun _ h => h, fun _ h => .inl h⟩
theorem Ext.trans (x : Ext W W') (y : Ext W' W'') : Ext W W'' := by
  refine ⟨fun a o h n => y.keep a o (x.keep a o h n) fun hm => ?_, x.pre.trans y.pre, fun a h => y.fsub a (x.fsub a h), fun a h => ?_, fun a h => y.dom a (x.dom a h), fun a h => ?_⟩
  · rcases x.rnew a hm with z | z
    · exact n z
    · rw [h] at z; cases z
  · rcases y.fnew a h with z | z
    · exact x.fnew a z
    · refine .inr ?_
      cases q : W.H a with
      | none => rfl
      | some o => exact absurd z (x.dom a (by rw [q]; simp))
  · rcases y.rnew a h with z | z
    · exact x.rnew a z
    · refine .inr ?_
      cases q : W.H a with
      | none => rfl
      | some o => exact absurd z (x.dom a (by rw [q]; simp))

theorem Ext.rd {u : HO} (x : Ext W W') (hs : ∀ a ∈ W.ρ, W.F a) (h : Rd W.H a u ∧ ¬ W.F a) : Rd W'.H a u ∧ ¬ W'.F a := by
  obtain ⟨h, n⟩ := h
  have nr : a ∉ W.ρ := fun z => n (hs a z)
  refine ⟨?_, fun z => ?_⟩
  · rcases h with h | ⟨o, h⟩
    · exact .inl (x.keep _ _ h nr)
    · exact .inr ⟨o, x.keep _ _ h nr⟩
  · rcases x.fnew a z with z | z
    · exact n z
    · rcases h with h | ⟨o, h⟩ <;> (rw [h] at z; cases z)
theorem Ext.tat (x : Ext W W') (hs : ∀ a ∈ W.ρ, W.F a) (h : TAt K W a vs) : TAt K W' a vs := h.elim (fun h => .inl (x.rd hs h)) .inr
theorem Ext.lat (x : Ext W W') (hs : ∀ a ∈ W.ρ, W.F a) (h : LAt K W a vs) : LAt K W' a vs := h.elim (fun h => .inl (x.rd hs h)) .inr
theorem Ext.dat {es : List DictEntry} {ep : Nat} (x : Ext W W') (hs : ∀ a ∈ W.ρ, W.F a) (h : DAt W a es ep) : DAt W' a es ep := x.rd hs h
theorem Ext.ix {n : Nat} (x : Ext W W') (h : W.ρ[n]? = some a) : W'.ρ[n]? = some a := by
  obtain ⟨t, e⟩ := x.pre
  rw [← e, List.getElem?_append_left (List.getElem?_eq_some_iff.mp h).1]
  exact h
mutual
theorem RepD.ext (x : Ext W W') (hs : ∀ a ∈ W.ρ, W.F a) : ∀ {d : D} {v : V}, RepD K mg W d v → RepD K mg W' d v
  | _, _, .non => .non
  | _, _, .bl b => .bl b
  | _, _, .int i => .int i
  | _, _, .str s => .str s
  | _, _, .ty n => .ty n
  | _, _, .tup h r => .tup (x.tat hs h) (RepDs.ext x hs r)
  | _, _, .lst h r => .lst (x.lat hs h) (RepDs.ext x hs r)
  | _, _, .dct h r o => .dct (x.dat hs h) (Ents.ext x hs r) o
  | _, _, .ref h => .ref (x.ix h)
  | _, _, .fn h => .fn h
theorem RepDs.ext (x : Ext W W') (hs : ∀ a ∈ W.ρ, W.F a) : ∀ {d : List D} {v : List V}, RepDs K mg W d v → RepDs K mg W' d v
  | _, _, .nil => .nil
  | _, _, .cons h r => .cons (RepD.ext x hs h) (RepDs.ext x hs r)
theorem Ents.ext (x : Ext W W') (hs : ∀ a ∈ W.ρ, W.F a) : ∀ {d : List (D × D)} {v : List DictEntry}, Ents K mg W d v → Ents K mg W' d v
  | _, _, .nil => .nil
  | _, _, .cons h1 h2 h3 h4 h5 r => .cons (RepD.ext x hs h1) h2 (RepD.ext x hs h3) h4 h5 (Ents.ext x hs r)
end
theorem OwnC.some (h : OwnC K mg W d a) : ∃ o, W.H a = some o := by
  cases h with
  | lst h _ => exact ⟨_, h⟩
  | dct h _ _ => exact ⟨_, h⟩
theorem OwnC.ext (x : Ext W W') (hs : ∀ a ∈ W.ρ, W.F a) (n : a ∉ W.ρ) (h : OwnC K mg W d a) : OwnC K mg W' d a := by
  cases h with
  | lst h r => exact .lst (x.keep _ _ h n) (r.ext x hs)
  | dct h r o => exact .dct (x.keep _ _ h n) (r.ext x hs) o
theorem OwnC.notρ (x : Ext W W') (n : a ∉ W.ρ) (h : OwnC K mg W d a) : a ∉ W'.ρ := fun z => by
  rcases x.rnew _ z with z | z
  · exact n z
  · obtain ⟨o, h⟩ := h.some
    rw [h] at z; cases z
theorem RepB.ext (x : Ext W W') (hs : ∀ a ∈ W.ρ, W.F a) (h : RepB K mg W d v) : RepB K mg W' d v := by
  cases h with
  | of h => exact .of (h.ext x hs)
  | own h n => exact .own (h.ext x hs n) (h.notρ x n)
theorem RepDs.length : ∀ {ds : List D} {vs : List V}, RepDs K mg W ds vs → ds.length = vs.length
  | _, _, .nil => rfl
  | _, _, .cons _ r => by simp [RepDs.length r]
theorem RepBs.length : ∀ {ds : List D} {vs : List V}, RepBs K mg W ds vs → ds.length = vs.length
  | _, _, .nil => rfl
  | _, _, .cons _ r => by simp [RepBs.length r]
theorem RepDs.bs : ∀ {ds : List D} {vs : List V}, RepDs K mg W ds vs → RepBs K mg W ds vs
  | _, _, .nil => .nil
  | _, _, .cons h r => .cons (.of h) (RepDs.bs r)
theorem RepDs.append : ∀ {ds es : List D} {vs ws : List V}, RepDs K mg W ds vs → RepDs K mg W es ws → RepDs K mg W (ds ++ es) (vs ++ ws)
  | _, _, _, _, .nil, s => s
  | _, _, _, _, .cons h r, s => .cons h (RepDs.append r s)
theorem RepDs.get : ∀ {ds : List D} {vs : List V} {i : Nat} {d : D}, RepDs K mg W ds vs → ds[i]? = some d → ∃ v, vs[i]? = some v ∧ RepD K mg W d v
  | _, _, 0, _, .cons h _, e => by simp at e; subst e; exact ⟨_, rfl, h⟩
  | _, _, i + 1, _, .cons _ r, e => by
    obtain ⟨v, h1, h2⟩ := RepDs.get (i := i) r (by simpa using e)
    exact ⟨v, by simpa using h1, h2⟩
theorem RepDs.get' : ∀ {ds : List D} {vs : List V} {i : Nat} {v : V}, RepDs K mg W ds vs → vs[i]? = some v → ∃ d, ds[i]? = some d ∧ RepD K mg W d v
  | _, _, 0, _, .cons h _, e => by simp at e; subst e; exact ⟨_, rfl, h⟩
  | _, _, i + 1, _, .cons _ r, e => by
    obtain ⟨v, h1, h2⟩ := RepDs.get' (i := i) r (by simpa using e)
    exact ⟨v, by simpa using h1, h2⟩
theorem RepDs.set {x : D} {u : V} (h0 : RepD K mg W x u) : ∀ {ds : List D} {vs : List V} (i : Nat), RepDs K mg W ds vs → RepDs K mg W (ds.set i x) (vs.set i u)
  | _, _, _, .nil => .nil
  | _, _, 0, .cons _ r => .cons h0 r
  | _, _, i + 1, .cons h r => .cons h (RepDs.set h0 i r)
theorem RepDs.drop : ∀ {ds : List D} {vs : List V} (n : Nat), RepDs K mg W ds vs → RepDs K mg W (ds.drop n) (vs.drop n)
  | _, _, 0, r => r
  | _, _, _ + 1, .nil => .nil
  | _, _, n + 1, .cons _ r => RepDs.drop n r
theorem RepDs.take : ∀ {ds : List D} {vs : List V} (n : Nat), RepDs K mg W ds vs → RepDs K mg W (ds.take n) (vs.take n)
  | _, _, 0, _ => .nil
  | _, _, _ + 1, .nil => .nil
  | _, _, n + 1, .cons h r => .cons h (RepDs.take n r)
theorem RepDs.reverse {ds : List D} {vs : List V} (h : RepDs K mg W ds vs) : RepDs K mg W ds.reverse vs.reverse := by
  induction ds generalizing vs with
  | nil => cases h; exact .nil
  | cons x xs ih =>
    cases h with
    | cons h r => rw [List.reverse_cons, List.reverse_cons]; exact (ih r).append (.cons h .nil)
theorem RepDs.rep {ds : List D} {vs : List V} (h : RepDs K mg W ds vs) : ∀ k : Nat, RepDs K mg W (List.replicate k ds).flatten (List.replicate k vs).flatten
  | 0 => .nil
  | k + 1 => by rw [List.replicate_succ, List.replicate_succ, List.flatten_cons, List.flatten_cons]; exact h.append (RepDs.rep h k)

/-! ### reading a value -/
theorem RepD.int_inv {i : Int} (h : RepD K mg W (.int i) v) : v = .int i := by cases h; rfl
theorem RepD.bl_inv {b : Bool} (h : RepD K mg W (.bl b) v) : v = .bl b := by cases h; rfl
theorem RepD.str_inv {s : Str} (h : RepD K mg W (.str s) v) : v = .str s := by cases h; rfl
theorem RepD.non_inv (h : RepD K mg W .non v) : v = .non := by cases h; rfl
theorem RepB.int_inv {i : Int} (h : RepB K mg W (.int i) v) : v = .int i := by cases h with | of h => exact h.int_inv | own h n => cases h
theorem RepB.bl_inv {b : Bool} (h : RepB K mg W (.bl b) v) : v = .bl b := by cases h with | of h => exact h.bl_inv | own h n => cases h
theorem RepB.str_inv {s : Str} (h : RepB K mg W (.str s) v) : v = .str s := by cases h with | of h => exact h.str_inv | own h n => cases h
theorem RepB.non_inv (h : RepB K mg W .non v) : v = .non := by cases h with | of h => exact h.non_inv | own h n => cases h
theorem LAt.sq (h : LAt K W a vs) : SqL K W.H a vs := h.elim (fun h => .inl h.1) .inr
theorem TAt.sq (h : TAt K W a vs) : SqT K W.H a vs := h.elim (fun h => .inl h.1) .inr
theorem RepB.tup_inv {xs : List D} (h : RepB K mg W (.tup xs) v) : ∃ a vs, v = .ref a ∧ TAt K W a vs ∧ RepDs K mg W xs vs := by
  cases h with
  | of h => cases h with | tup h r => exact ⟨_, _, rfl, h, r⟩
  | own h n => cases h
/-- what stands at a value that is walked, an object of the store too -/
theorem view_lst {xs : List D} (R : Rep K mg W S) (h : RepB K mg W d v) (e : view S d = .lst xs) : ∃ a vs, v = .ref a ∧ SqL K W.H a vs ∧ RepDs K mg W xs vs := by
  cases h with
  | own h n =>
    cases h with
    | lst h r => cases (show D.lst _ = D.lst _ from e); exact ⟨_, _, rfl, .inl (.inl h), r⟩
    | dct h r o => cases (show D.dct _ = D.lst _ from e)
  | of h =>
    cases h with
    | lst h r => cases (show D.lst _ = D.lst _ from e); exact ⟨_, _, rfl, h.sq, r⟩
    | ref h =>
      rename_i n a
      have e : (match S[n]? with | some (.lst xs) => D.lst xs | some (.dct kvs) => .dct kvs | _ => .ref n) = .lst xs := e
      split at e
      · rename_i ys q
        cases e
        obtain ⟨vs, h1, h2⟩ := R.obj n _ a q h
        exact ⟨a, vs, rfl, .inl (.inl h1), h2⟩
      · cases e
      · cases e
    | _ => cases e
/-- the dict at a value -/
theorem view_dct {kvs : List (D × D)} (R : Rep K mg W S) (h : RepB K mg W d v) (e : view S d = .dct kvs) : ∃ a es ep, v = .ref a ∧ Rd W.H a (DictO a es ep) ∧ Ents K mg W kvs es ∧ DOk kvs := by
  cases h with
  | own h n =>
    cases h with
    | lst h r => cases (show D.lst _ = D.dct _ from e)
    | dct h r o => cases (show D.dct _ = D.dct _ from e); exact ⟨_, _, _, rfl, .inl h, r, o⟩
  | of h =>
    cases h with
    | dct h r o => cases (show D.dct _ = D.dct _ from e); exact ⟨_, _, _, rfl, h.1, r, o⟩
    | ref h =>
      rename_i n a
      have e : (match S[n]? with | some (.lst xs) => D.lst xs | some (.dct kvs) => .dct kvs | _ => .ref n) = .dct kvs := e
      split at e
      · cases e
      · rename_i ys q
        cases e
        obtain ⟨es, ep, h1, h2, h3⟩ := R.obj n _ a q h
        exact ⟨a, es, ep, rfl, .inl h1, h2, h3⟩
      · cases e
    | _ => cases e
end
end Ly
namespace L2
/-- the module's names, the world -/
def Cx.mgw (X : Cx) : Ly.MG := ⟨X.mg, X.w⟩
end L2
/-! Ly: == of trees. -/
namespace Ly
open PySem PySem.Spec PyProof.Rows L2 PySem.SeqAt

section
variable (K : PySem.W.Frag) (mg : MG)
/-- what stands at a value, to be read -/
def At (W : Wd) : D → V → Prop
  | .non, x => x = .non
  | .bl b, x => x = .bl b
  | .int i, x => x = .int i
  | .str s, x => x = .str s
  | .ty n, x => x = .ty n
  | .tup xs, x => ∃ a vs, x = .ref a ∧ TAt K W a vs ∧ RepDs K mg W xs vs
  | .lst xs, x => ∃ a vs, x = .ref a ∧ SqL K W.H a vs ∧ RepDs K mg W xs vs
  | .fn f, x => ∃ a, x = .ref a ∧ mg.m f = some (.ref a)
  | .ref n, x => ∃ a, x = .ref a ∧ W.ρ[n]? = some a
  | .dct kvs, x => ∃ a es ep, x = .ref a ∧ Rd W.H a (DictO a es ep) ∧ Ents K mg W kvs es ∧ DOk kvs
  | .set _, _ => False
end
section
variable {K : PySem.W.Frag} {mg : MG} {W : Wd} {S : Sto} {d : D} {v : V}
def notRef : D → Bool
  | .ref _ => false
  | _ => true
theorem RepD.at' (h : RepD K mg W d v) : At K mg W d v := by
  cases h with
  | non => rfl
  | bl => rfl
  | int => rfl
  | str => rfl
  | ty => rfl
  | tup h r => exact ⟨_, _, rfl, h, r⟩
  | lst h r => exact ⟨_, _, rfl, h.sq, r⟩
  | dct h r o => exact ⟨_, _, _, rfl, h.1, r, o⟩
  | fn h => exact ⟨_, rfl, h⟩
  | ref h => exact ⟨_, rfl, h⟩
theorem RepD.at (h : RepD K mg W d v) (n : notRef d = true) : At K mg W d v := h.at'
theorem view_at (R : Rep K mg W S) (h : RepB K mg W d v) : At K mg W (view S d) v := by
  cases h with
  | own h _ =>
    cases h with
    | lst h r => exact ⟨_, _, rfl, .inl (.inl h), r⟩
    | dct h r o => exact ⟨_, _, _, rfl, .inl h, r, o⟩
  | of h =>
    cases d with
    | ref m =>
      cases h with
      | ref h =>
        rename_i a
        cases e : S[m]? with
        | none => rw [show view S (.ref m) = .ref m from by simp [view, e]]; exact ⟨a, rfl, h⟩
        | some mo =>
          have q := R.obj m mo a e h
          cases mo with
          | lst xs =>
            obtain ⟨vs, h1, h2⟩ := q
            rw [show view S (.ref m) = .lst xs from by simp [view, e]]
            exact ⟨a, vs, rfl, .inl (.inl h1), h2⟩
          | dct kvs =>
            obtain ⟨es, ep, h1, h2, h3⟩ := q
            rw [show view S (.ref m) = .dct kvs from by simp [view, e]]
            exact ⟨a, es, ep, rfl, .inl h1, h2, h3⟩
          | ins c fs => exact q.elim
          | dead => rw [show view S (.ref m) = .ref m from by simp [view, e]]; exact ⟨a, rfl, h⟩
    | _ => exact h.at'
end

theorem eqv_seq_le (a b : Nat) : a ≤ b → a ≤ b := fun h => h
def pairD (xs ys : List D) (j : Nat) : Bool := match xs[j]?, ys[j]? with
  | some x, some y => D.eqv x y
  | _, _ => false
theorem pairD_succ (x y : D) (xs ys : List D) (j : Nat) : pairD (x :: xs) (y :: ys) (j + 1) = pairD xs ys j := by simp [pairD]
theorem range_all_succ (n : Nat) (p : Nat → Bool) : (List.range (n + 1)).all p = (p 0 && (List.range n).all fun j => p (j + 1)) := by
  rw [List.range_succ_eq_map, List.all_cons, List.all_map]; rfl
theorem eqvs_eq : ∀ xs ys : List D, ((List.range (min xs.length ys.length)).all (pairD xs ys) && xs.length == ys.length) = D.eqvs xs ys
  | [], [] => rfl
  | [], _ :: _ => by simp [D.eqvs]
  | _ :: _, [] => by simp [D.eqvs]
  | x :: xs, y :: ys => by
    have ih := eqvs_eq xs ys
    rw [D.eqvs, ← ih, List.length_cons, List.length_cons, Nat.succ_min_succ, range_all_succ]
    have e : (fun j => pairD (x :: xs) (y :: ys) (j + 1)) = pairD xs ys := by funext j; exact pairD_succ x y xs ys j
    rw [e]
    have e0 : pairD (x :: xs) (y :: ys) 0 = D.eqv x y := rfl
    rw [e0, Bool.and_assoc]
    have e1 : (xs.length + 1 == ys.length + 1) = (xs.length == ys.length) := by simp
    rw [e1]
theorem eqvs_same {xs ys : List D} (h : xs.length = ys.length) : (List.range xs.length).all (pairD xs ys) = D.eqvs xs ys := by
  rw [← eqvs_eq, ← h, Nat.min_self]; simp
theorem eqvs_other {xs ys : List D} (h : xs.length ≠ ys.length) : D.eqvs xs ys = false := by
  rw [← eqvs_eq]; simp [h]
mutual
theorem eqv_refl : ∀ d : D, d.plain = true → D.eqv d d = true
  | .non, _ => rfl
  | .bl b, _ => by simp [D.eqv]
  | .int b, _ => by simp [D.eqv]
  | .str b, _ => by simp [D.eqv]
  | .tup xs, h => by rw [D.eqv]; exact eqvs_refl xs h
  | .lst xs, h => by rw [D.eqv]; exact eqvs_refl xs h
  | .dct _, h => by cases h
  | .set _, h => by cases h
  | .ref _, h => by cases h
  | .fn _, h => by cases h
  | .ty _, h => by cases h
theorem eqvs_refl : ∀ ds : List D, D.plains ds = true → D.eqvs ds ds = true
  | [], _ => rfl
  | x :: xs, h => by
    rw [D.plains, Bool.and_eq_true] at h
    rw [D.eqvs, eqv_refl x h.1, eqvs_refl xs h.2]; rfl
end

section
variable {X : Cx} {pins : List (Addr × Obj)} {σ : L2.St} {s : Shared} {mg : MG} {W : Wd}
theorem tupIs {h : Heap} {a : Addr} {its : Array Value} (x : IsTup h a its) : h.IsTuple a its := x
theorem Inv.lst_tup (I : Inv X pins σ W.H s) {a : Addr} {vs ws : List V} (h1 : SqL X.K W.H a vs) (h2 : SqT X.K W.H a ws) : False := by
  obtain ⟨i1, _, ⟨o, n, e, c, _, _⟩, _⟩ := I.list h1
  obtain ⟨i2, _, ⟨o2, e2, c2, _⟩, _⟩ := I.tuple h2
  rw [e] at e2; cases e2
  rw [c] at c2
  exact absurd c2 (by decide +kernel)
mutual
/-- a value tells its tree -/
theorem rep_det (I : Inv X pins σ W.H s) : ∀ (a b : D) (x : V), At X.K mg W a x → At X.K mg W b x → a.plain = true → b.plain = true → a = b
  | .non, b, x, h1, h2, _, hb => by obtain rfl := h1; cases b <;> first | rfl | (cases hb; done) | (cases h2; done) | (obtain ⟨_, _, h, _⟩ := h2; cases h)
  | .bl _, b, x, h1, h2, _, hb => by obtain rfl := h1; cases b <;> first | (cases hb; done) | (cases h2; rfl) | (cases h2; done) | (obtain ⟨_, _, h, _⟩ := h2; cases h)
  | .int _, b, x, h1, h2, _, hb => by obtain rfl := h1; cases b <;> first | (cases hb; done) | (cases h2; rfl) | (cases h2; done) | (obtain ⟨_, _, h, _⟩ := h2; cases h)
  | .str _, b, x, h1, h2, _, hb => by obtain rfl := h1; cases b <;> first | (cases hb; done) | (cases h2; rfl) | (cases h2; done) | (obtain ⟨_, _, h, _⟩ := h2; cases h)
  | .tup xs, b, x, h1, h2, ha, hb => by
    obtain ⟨a, vs, rfl, q, r⟩ := h1
    cases b <;> first | (cases h2; done) | (cases hb; done) | skip
    · obtain ⟨a', ws, e, q2, r2⟩ := h2
      cases e
      have e := I.tuple_inj q.sq q2.sq
      subst e
      rw [reps_det I xs _ vs r r2 ha hb]
    · obtain ⟨a', ws, e, q2, r2⟩ := h2
      cases e
      exact (Inv.lst_tup I q2 q.sq).elim
  | .lst xs, b, x, h1, h2, ha, hb => by
    obtain ⟨a, vs, rfl, q, r⟩ := h1
    cases b <;> first | (cases h2; done) | (cases hb; done) | skip
    · obtain ⟨a', ws, e, q2, r2⟩ := h2
      cases e
      exact (Inv.lst_tup I q q2.sq).elim
    · obtain ⟨a', ws, e, q2, r2⟩ := h2
      cases e
      have e := I.list_inj q q2
      subst e
      rw [reps_det I xs _ vs r r2 ha hb]
  | .dct _, _, _, _, _, h, _ => by cases h
  | .set _, _, _, _, _, h, _ => by cases h
  | .ref _, _, _, _, _, h, _ => by cases h
  | .fn _, _, _, _, _, h, _ => by cases h
  | .ty _, _, _, _, _, h, _ => by cases h
theorem reps_det (I : Inv X pins σ W.H s) : ∀ (a b : List D) (x : List V), RepDs X.K mg W a x → RepDs X.K mg W b x → D.plains a = true → D.plains b = true → a = b
  | [], _, _, h1, h2, _, _ => by cases h1; cases h2; rfl
  | d :: ds, _, _, h1, h2, ha, hb => by
    cases h1 with
    | cons p1 r1 =>
      cases h2 with
      | cons p2 r2 =>
        rw [D.plains, Bool.and_eq_true] at ha hb
        have nr : ∀ {e : D}, e.plain = true → notRef e = true := fun {e} h => by cases e <;> first | rfl | (cases h; done)
        rw [rep_det I d _ _ (p1.at (nr ha.1)) (p2.at (nr hb.1)) ha.1 hb.1, reps_det I ds _ _ r1 r2 ha.2 hb.2]
end
theorem plain_notRef {e : D} (h : e.plain = true) : notRef e = true := by cases e <;> first | rfl | (cases h; done)
mutual
theorem eqAt_D (I : Inv X pins σ W.H s) : ∀ (a b : D) (x y : V) (v u : Value) (A : Around), At X.K mg W a x → At X.K mg W b y → RelV x v → RelV y u → a.plain = true → b.plain = true →
    A.units + min a.depth b.depth < cLine → EqAt A s v u (D.eqv a b)
  | .non, .non => by
    intro x y v u A h1 h2 r1 r2 hp hq hu
    obtain rfl := h1; cases r1
    obtain rfl := h2; cases r2
    exact EqAt.same _
  | .non, .bl q => by
    intro x y v u A h1 h2 r1 r2 hp hq hu
    obtain rfl := h1; cases r1
    obtain rfl := h2; cases r2
    exact EqAt.none_bool q
  | .non, .int q => by
    intro x y v u A h1 h2 r1 r2 hp hq hu
    obtain rfl := h1; cases r1
    obtain rfl := h2; obtain ⟨t2, rfl⟩ := r2
    exact EqAt.none_int q t2
  | .non, .str q => by
    intro x y v u A h1 h2 r1 r2 hp hq hu
    obtain rfl := h1; cases r1
    obtain rfl := h2; obtain ⟨t2, rfl⟩ := r2
    exact EqAt.none_str q t2
  | .non, .tup q => by
    intro x y v u A h1 h2 r1 r2 hp hq hu
    obtain rfl := h1; cases r1
    obtain ⟨l2, vs2, rfl, sq2, ds2⟩ := h2; cases r2; obtain ⟨its2, rv2, pl2, z2⟩ := I.tuple sq2.sq
    exact EqAt.none_tuple (tupIs pl2) (by omega)
  | .non, .lst q => by
    intro x y v u A h1 h2 r1 r2 hp hq hu
    obtain rfl := h1; cases r1
    obtain ⟨l2, vs2, rfl, sq2, ds2⟩ := h2; cases r2; obtain ⟨its2, rv2, pl2, z2⟩ := I.list sq2
    exact EqAt.none_list pl2.isList (by omega)
  | .bl p, .non => by
    intro x y v u A h1 h2 r1 r2 hp hq hu
    obtain rfl := h1; cases r1
    obtain rfl := h2; cases r2
    exact EqAt.bool_none p
  | .bl p, .bl q => by
    intro x y v u A h1 h2 r1 r2 hp hq hu
    obtain rfl := h1; cases r1
    obtain rfl := h2; cases r2
    exact EqAt.bool_bool p q
  | .bl p, .int q => by
    intro x y v u A h1 h2 r1 r2 hp hq hu
    obtain rfl := h1; cases r1
    obtain rfl := h2; obtain ⟨t2, rfl⟩ := r2
    exact EqAt.bool_int p q t2
  | .bl p, .str q => by
    intro x y v u A h1 h2 r1 r2 hp hq hu
    obtain rfl := h1; cases r1
    obtain rfl := h2; obtain ⟨t2, rfl⟩ := r2
    exact EqAt.bool_str p q t2
  | .bl p, .tup q => by
    intro x y v u A h1 h2 r1 r2 hp hq hu
    obtain rfl := h1; cases r1
    obtain ⟨l2, vs2, rfl, sq2, ds2⟩ := h2; cases r2; obtain ⟨its2, rv2, pl2, z2⟩ := I.tuple sq2.sq
    exact EqAt.bool_tuple p (tupIs pl2) (by omega)
  | .bl p, .lst q => by
    intro x y v u A h1 h2 r1 r2 hp hq hu
    obtain rfl := h1; cases r1
    obtain ⟨l2, vs2, rfl, sq2, ds2⟩ := h2; cases r2; obtain ⟨its2, rv2, pl2, z2⟩ := I.list sq2
    exact EqAt.bool_list p pl2.isList (by omega)
  | .int p, .non => by
    intro x y v u A h1 h2 r1 r2 hp hq hu
    obtain rfl := h1; obtain ⟨t1, rfl⟩ := r1
    obtain rfl := h2; cases r2
    exact EqAt.int_none p t1
  | .int p, .bl q => by
    intro x y v u A h1 h2 r1 r2 hp hq hu
    obtain rfl := h1; obtain ⟨t1, rfl⟩ := r1
    obtain rfl := h2; cases r2
    exact EqAt.int_bool p t1 q
  | .int p, .int q => by
    intro x y v u A h1 h2 r1 r2 hp hq hu
    obtain rfl := h1; obtain ⟨t1, rfl⟩ := r1
    obtain rfl := h2; obtain ⟨t2, rfl⟩ := r2
    exact EqAt.int_int p t1 q t2
  | .int p, .str q => by
    intro x y v u A h1 h2 r1 r2 hp hq hu
    obtain rfl := h1; obtain ⟨t1, rfl⟩ := r1
    obtain rfl := h2; obtain ⟨t2, rfl⟩ := r2
    exact EqAt.int_str p t1 q t2
  | .int p, .tup q => by
    intro x y v u A h1 h2 r1 r2 hp hq hu
    obtain rfl := h1; obtain ⟨t1, rfl⟩ := r1
    obtain ⟨l2, vs2, rfl, sq2, ds2⟩ := h2; cases r2; obtain ⟨its2, rv2, pl2, z2⟩ := I.tuple sq2.sq
    exact EqAt.int_tuple p t1 (tupIs pl2) (by omega)
  | .int p, .lst q => by
    intro x y v u A h1 h2 r1 r2 hp hq hu
    obtain rfl := h1; obtain ⟨t1, rfl⟩ := r1
    obtain ⟨l2, vs2, rfl, sq2, ds2⟩ := h2; cases r2; obtain ⟨its2, rv2, pl2, z2⟩ := I.list sq2
    exact EqAt.int_list p t1 pl2.isList (by omega)
  | .str p, .non => by
    intro x y v u A h1 h2 r1 r2 hp hq hu
    obtain rfl := h1; obtain ⟨t1, rfl⟩ := r1
    obtain rfl := h2; cases r2
    exact EqAt.str_none p t1
  | .str p, .bl q => by
    intro x y v u A h1 h2 r1 r2 hp hq hu
    obtain rfl := h1; obtain ⟨t1, rfl⟩ := r1
    obtain rfl := h2; cases r2
    exact EqAt.str_bool p t1 q
  | .str p, .int q => by
    intro x y v u A h1 h2 r1 r2 hp hq hu
    obtain rfl := h1; obtain ⟨t1, rfl⟩ := r1
    obtain rfl := h2; obtain ⟨t2, rfl⟩ := r2
    exact EqAt.str_int p t1 q t2
  | .str p, .str q => by
    intro x y v u A h1 h2 r1 r2 hp hq hu
    obtain rfl := h1; obtain ⟨t1, rfl⟩ := r1
    obtain rfl := h2; obtain ⟨t2, rfl⟩ := r2
    exact EqAt.str_str p t1 q t2
  | .str p, .tup q => by
    intro x y v u A h1 h2 r1 r2 hp hq hu
    obtain rfl := h1; obtain ⟨t1, rfl⟩ := r1
    obtain ⟨l2, vs2, rfl, sq2, ds2⟩ := h2; cases r2; obtain ⟨its2, rv2, pl2, z2⟩ := I.tuple sq2.sq
    exact EqAt.str_tuple p t1 (tupIs pl2) (by omega)
  | .str p, .lst q => by
    intro x y v u A h1 h2 r1 r2 hp hq hu
    obtain rfl := h1; obtain ⟨t1, rfl⟩ := r1
    obtain ⟨l2, vs2, rfl, sq2, ds2⟩ := h2; cases r2; obtain ⟨its2, rv2, pl2, z2⟩ := I.list sq2
    exact EqAt.str_list p t1 pl2.isList (by omega)
  | .tup p, .non => by
    intro x y v u A h1 h2 r1 r2 hp hq hu
    obtain ⟨l1, vs1, rfl, sq1, ds1⟩ := h1; cases r1; obtain ⟨its1, rv1, pl1, z1⟩ := I.tuple sq1.sq
    obtain rfl := h2; cases r2
    exact EqAt.tuple_none (tupIs pl1) (by omega)
  | .tup p, .bl q => by
    intro x y v u A h1 h2 r1 r2 hp hq hu
    obtain ⟨l1, vs1, rfl, sq1, ds1⟩ := h1; cases r1; obtain ⟨its1, rv1, pl1, z1⟩ := I.tuple sq1.sq
    obtain rfl := h2; cases r2
    exact EqAt.tuple_bool q (tupIs pl1) (by omega)
  | .tup p, .int q => by
    intro x y v u A h1 h2 r1 r2 hp hq hu
    obtain ⟨l1, vs1, rfl, sq1, ds1⟩ := h1; cases r1; obtain ⟨its1, rv1, pl1, z1⟩ := I.tuple sq1.sq
    obtain rfl := h2; obtain ⟨t2, rfl⟩ := r2
    exact EqAt.tuple_int q t2 (tupIs pl1) (by omega)
  | .tup p, .str q => by
    intro x y v u A h1 h2 r1 r2 hp hq hu
    obtain ⟨l1, vs1, rfl, sq1, ds1⟩ := h1; cases r1; obtain ⟨its1, rv1, pl1, z1⟩ := I.tuple sq1.sq
    obtain rfl := h2; obtain ⟨t2, rfl⟩ := r2
    exact EqAt.tuple_str q t2 (tupIs pl1) (by omega)
  | .tup p, .tup q => by
    intro x y v u A h1 h2 r1 r2 hp hq hu
    obtain ⟨l1, vs1, rfl, sq1, ds1⟩ := h1; cases r1; obtain ⟨its1, rv1, pl1, z1⟩ := I.tuple sq1.sq
    obtain ⟨l2, vs2, rfl, sq2, ds2⟩ := h2; cases r2; obtain ⟨its2, rv2, pl2, z2⟩ := I.tuple sq2.sq
    have hl : s.heap.IsTuple l1 its1.toArray := tupIs pl1
    have hb : s.heap.IsTuple l2 its2.toArray := tupIs pl2
    have n1 : its1.toArray.size = p.length := by rw [List.size_toArray, ← rv1.length, ds1.length]
    have n2 : its2.toArray.size = q.length := by rw [List.size_toArray, ← rv2.length, ds2.length]
    have hu' : A.in1.units + min (D.depths p) (D.depths q) < cLine := by show A.units + 1 + _ < _; simp only [D.depth] at hu; omega
    have he : ∀ j (j1 : j < its1.toArray.size) (j2 : j < its2.toArray.size), EqAt A.in1 s its1.toArray[j] its2.toArray[j] (pairD p q j) := fun j j1 j2 => eqAt_Ds I p q vs1 vs2 its1 its2 A.in1 ds1 ds2 rv1 rv2 hp hq hu' j (by simpa using j1) (by simpa using j2)
    by_cases hne : l1 = l2
    · subst hne
      have e : D.tup p = D.tup q := rep_det I _ _ (.ref l1) ⟨l1, vs1, rfl, sq1, ds1⟩ ⟨l1, vs2, rfl, sq2, ds2⟩ hp hq
      cases e
      rw [eqv_refl _ hp]
      exact EqAt.same _
    refine .of_refs hne ?_
    show RcAt A s (.ref l1) (.ref l2) (D.eqvs p q)
    rw [← eqvs_eq p q, ← n1, ← n2]
    exact RcAt.tuples hl hb (by omega) he
  | .tup p, .lst q => by
    intro x y v u A h1 h2 r1 r2 hp hq hu
    obtain ⟨l1, vs1, rfl, sq1, ds1⟩ := h1; cases r1; obtain ⟨its1, rv1, pl1, z1⟩ := I.tuple sq1.sq
    obtain ⟨l2, vs2, rfl, sq2, ds2⟩ := h2; cases r2; obtain ⟨its2, rv2, pl2, z2⟩ := I.list sq2
    exact EqAt.tuple_list (tupIs pl1) pl2.isList (by omega)
  | .lst p, .non => by
    intro x y v u A h1 h2 r1 r2 hp hq hu
    obtain ⟨l1, vs1, rfl, sq1, ds1⟩ := h1; cases r1; obtain ⟨its1, rv1, pl1, z1⟩ := I.list sq1
    obtain rfl := h2; cases r2
    exact EqAt.list_none pl1.isList (by omega)
  | .lst p, .bl q => by
    intro x y v u A h1 h2 r1 r2 hp hq hu
    obtain ⟨l1, vs1, rfl, sq1, ds1⟩ := h1; cases r1; obtain ⟨its1, rv1, pl1, z1⟩ := I.list sq1
    obtain rfl := h2; cases r2
    exact EqAt.list_bool q pl1.isList (by omega)
  | .lst p, .int q => by
    intro x y v u A h1 h2 r1 r2 hp hq hu
    obtain ⟨l1, vs1, rfl, sq1, ds1⟩ := h1; cases r1; obtain ⟨its1, rv1, pl1, z1⟩ := I.list sq1
    obtain rfl := h2; obtain ⟨t2, rfl⟩ := r2
    exact EqAt.list_int q t2 pl1.isList (by omega)
  | .lst p, .str q => by
    intro x y v u A h1 h2 r1 r2 hp hq hu
    obtain ⟨l1, vs1, rfl, sq1, ds1⟩ := h1; cases r1; obtain ⟨its1, rv1, pl1, z1⟩ := I.list sq1
    obtain rfl := h2; obtain ⟨t2, rfl⟩ := r2
    exact EqAt.list_str q t2 pl1.isList (by omega)
  | .lst p, .tup q => by
    intro x y v u A h1 h2 r1 r2 hp hq hu
    obtain ⟨l1, vs1, rfl, sq1, ds1⟩ := h1; cases r1; obtain ⟨its1, rv1, pl1, z1⟩ := I.list sq1
    obtain ⟨l2, vs2, rfl, sq2, ds2⟩ := h2; cases r2; obtain ⟨its2, rv2, pl2, z2⟩ := I.tuple sq2.sq
    exact EqAt.list_tuple pl1.isList (tupIs pl2) (by omega)
  | .lst p, .lst q => by
    intro x y v u A h1 h2 r1 r2 hp hq hu
    obtain ⟨l1, vs1, rfl, sq1, ds1⟩ := h1; cases r1; obtain ⟨its1, rv1, pl1, z1⟩ := I.list sq1
    obtain ⟨l2, vs2, rfl, sq2, ds2⟩ := h2; cases r2; obtain ⟨its2, rv2, pl2, z2⟩ := I.list sq2
    have hl : s.heap.IsList l1 its1.toArray := pl1.isList
    have hb : s.heap.IsList l2 its2.toArray := pl2.isList
    have n1 : its1.toArray.size = p.length := by rw [List.size_toArray, ← rv1.length, ds1.length]
    have n2 : its2.toArray.size = q.length := by rw [List.size_toArray, ← rv2.length, ds2.length]
    have hu' : A.in1.units + min (D.depths p) (D.depths q) < cLine := by show A.units + 1 + _ < _; simp only [D.depth] at hu; omega
    have he : ∀ j (j1 : j < its1.toArray.size) (j2 : j < its2.toArray.size), EqAt A.in1 s its1.toArray[j] its2.toArray[j] (pairD p q j) := fun j j1 j2 => eqAt_Ds I p q vs1 vs2 its1 its2 A.in1 ds1 ds2 rv1 rv2 hp hq hu' j (by simpa using j1) (by simpa using j2)
    by_cases hne : l1 = l2
    · subst hne
      have e : D.lst p = D.lst q := rep_det I _ _ (.ref l1) ⟨l1, vs1, rfl, sq1, ds1⟩ ⟨l1, vs2, rfl, sq2, ds2⟩ hp hq
      cases e
      rw [eqv_refl _ hp]
      exact EqAt.same _
    refine .of_refs hne ?_
    show RcAt A s (.ref l1) (.ref l2) (D.eqvs p q)
    by_cases hsz : its1.toArray.size = its2.toArray.size
    · rw [← eqvs_same (by omega : p.length = q.length), ← n1]
      exact RcAt.lists hl hb hsz (by omega) he
    · rw [eqvs_other (by omega : p.length ≠ q.length)]
      exact RcAt.lists_lengths hl hb (by simpa using hsz) (by omega)
  | .dct _, _ => by
    intro x y v u A h1 h2 r1 r2 hp hq hu
    cases hp
  | .set _, _ => by
    intro x y v u A h1 h2 r1 r2 hp hq hu
    cases hp
  | .ref _, _ => by
    intro x y v u A h1 h2 r1 r2 hp hq hu
    cases hp
  | .fn _, _ => by
    intro x y v u A h1 h2 r1 r2 hp hq hu
    cases hp
  | .ty _, _ => by
    intro x y v u A h1 h2 r1 r2 hp hq hu
    cases hp
  | .non, .dct _ => by
    intro x y v u A h1 h2 r1 r2 hp hq hu
    cases hq
  | .bl _, .dct _ => by
    intro x y v u A h1 h2 r1 r2 hp hq hu
    cases hq
  | .int _, .dct _ => by
    intro x y v u A h1 h2 r1 r2 hp hq hu
    cases hq
  | .str _, .dct _ => by
    intro x y v u A h1 h2 r1 r2 hp hq hu
    cases hq
  | .tup _, .dct _ => by
    intro x y v u A h1 h2 r1 r2 hp hq hu
    cases hq
  | .lst _, .dct _ => by
    intro x y v u A h1 h2 r1 r2 hp hq hu
    cases hq
  | .non, .set _ => by
    intro x y v u A h1 h2 r1 r2 hp hq hu
    cases hq
  | .bl _, .set _ => by
    intro x y v u A h1 h2 r1 r2 hp hq hu
    cases hq
  | .int _, .set _ => by
    intro x y v u A h1 h2 r1 r2 hp hq hu
    cases hq
  | .str _, .set _ => by
    intro x y v u A h1 h2 r1 r2 hp hq hu
    cases hq
  | .tup _, .set _ => by
    intro x y v u A h1 h2 r1 r2 hp hq hu
    cases hq
  | .lst _, .set _ => by
    intro x y v u A h1 h2 r1 r2 hp hq hu
    cases hq
  | .non, .ref _ => by
    intro x y v u A h1 h2 r1 r2 hp hq hu
    cases hq
  | .bl _, .ref _ => by
    intro x y v u A h1 h2 r1 r2 hp hq hu
    cases hq
  | .int _, .ref _ => by
    intro x y v u A h1 h2 r1 r2 hp hq hu
    cases hq
  | .str _, .ref _ => by
    intro x y v u A h1 h2 r1 r2 hp hq hu
    cases hq
  | .tup _, .ref _ => by
    intro x y v u A h1 h2 r1 r2 hp hq hu
    cases hq
  | .lst _, .ref _ => by
    intro x y v u A h1 h2 r1 r2 hp hq hu
    cases hq
  | .non, .fn _ => by
    intro x y v u A h1 h2 r1 r2 hp hq hu
    cases hq
  | .bl _, .fn _ => by
    intro x y v u A h1 h2 r1 r2 hp hq hu
    cases hq
  | .int _, .fn _ => by
    intro x y v u A h1 h2 r1 r2 hp hq hu
    cases hq
  | .str _, .fn _ => by
    intro x y v u A h1 h2 r1 r2 hp hq hu
    cases hq
  | .tup _, .fn _ => by
    intro x y v u A h1 h2 r1 r2 hp hq hu
    cases hq
  | .lst _, .fn _ => by
    intro x y v u A h1 h2 r1 r2 hp hq hu
    cases hq
  | .non, .ty _ => by
    intro x y v u A h1 h2 r1 r2 hp hq hu
    cases hq
  | .bl _, .ty _ => by
    intro x y v u A h1 h2 r1 r2 hp hq hu
    cases hq
  | .int _, .ty _ => by
    intro x y v u A h1 h2 r1 r2 hp hq hu
    cases hq
  | .str _, .ty _ => by
    intro x y v u A h1 h2 r1 r2 hp hq hu
    cases hq
  | .tup _, .ty _ => by
    intro x y v u A h1 h2 r1 r2 hp hq hu
    cases hq
  | .lst _, .ty _ => by
    intro x y v u A h1 h2 r1 r2 hp hq hu
    cases hq
theorem eqAt_Ds (I : Inv X pins σ W.H s) : ∀ (xs ys : List D) (vs ws : List V) (its its2 : List Value) (A : Around), RepDs X.K mg W xs vs → RepDs X.K mg W ys ws → Vals vs its → Vals ws its2 → D.plains xs = true → D.plains ys = true →
    A.units + min (D.depths xs) (D.depths ys) < cLine → ∀ j (j1 : j < its.length) (j2 : j < its2.length), EqAt A s its[j] its2[j] (pairD xs ys j)
  | [], _, _, _, _, _, _, h1, _, r1, _, _, _, _, j, j1, _ => by cases h1; cases r1; exact absurd j1 (by simp)
  | _ :: _, [], _, _, _, _, _, _, h2, _, r2, _, _, _, j, _, j2 => by cases h2; cases r2; exact absurd j2 (by simp)
  | x :: xs, y :: ys, _, _, _, _, A, .cons p1 q1, .cons p2 q2, .cons r1 s1, .cons r2 s2, hp, hq, hu, j, j1, j2 => by
    rw [D.plains, Bool.and_eq_true] at hp hq
    simp only [D.depths] at hu
    cases j with
    | zero => exact eqAt_D I x y _ _ _ _ A (p1.at (plain_notRef hp.1)) (p2.at (plain_notRef hq.1)) r1 r2 hp.1 hq.1 (by omega)
    | succ j =>
      rw [pairD_succ]
      exact eqAt_Ds I xs ys _ _ _ _ A q1 q2 s1 s2 hp.2 hq.2 (by omega) j (by simpa using j1) (by simpa using j2)
end
theorem rcAt_D (I : Inv X pins σ W.H s) : ∀ (a b : D) (x y : V) (v u : Value) (A : Around), At X.K mg W a x → At X.K mg W b y → RelV x v → RelV y u → a.plain = true → b.plain = true →
    A.units + min a.depth b.depth < cLine → RcAt A s v u (D.eqv a b)
  | .non, .non => by
    intro x y v u A h1 h2 r1 r2 hp hq hu
    obtain rfl := h1; cases r1
    obtain rfl := h2; cases r2
    exact RcAt.none_none 
  | .non, .bl q => by
    intro x y v u A h1 h2 r1 r2 hp hq hu
    obtain rfl := h1; cases r1
    obtain rfl := h2; cases r2
    exact RcAt.none_bool q
  | .non, .int q => by
    intro x y v u A h1 h2 r1 r2 hp hq hu
    obtain rfl := h1; cases r1
    obtain rfl := h2; obtain ⟨t2, rfl⟩ := r2
    exact RcAt.none_int q t2
  | .non, .str q => by
    intro x y v u A h1 h2 r1 r2 hp hq hu
    obtain rfl := h1; cases r1
    obtain rfl := h2; obtain ⟨t2, rfl⟩ := r2
    exact RcAt.none_str q t2
  | .non, .tup q => by
    intro x y v u A h1 h2 r1 r2 hp hq hu
    obtain rfl := h1; cases r1
    obtain ⟨l2, vs2, rfl, sq2, ds2⟩ := h2; cases r2; obtain ⟨its2, rv2, pl2, z2⟩ := I.tuple sq2.sq
    exact RcAt.none_tuple (tupIs pl2) (by omega)
  | .non, .lst q => by
    intro x y v u A h1 h2 r1 r2 hp hq hu
    obtain rfl := h1; cases r1
    obtain ⟨l2, vs2, rfl, sq2, ds2⟩ := h2; cases r2; obtain ⟨its2, rv2, pl2, z2⟩ := I.list sq2
    exact RcAt.none_list pl2.isList (by omega)
  | .bl p, .non => by
    intro x y v u A h1 h2 r1 r2 hp hq hu
    obtain rfl := h1; cases r1
    obtain rfl := h2; cases r2
    exact RcAt.bool_none p
  | .bl p, .bl q => by
    intro x y v u A h1 h2 r1 r2 hp hq hu
    obtain rfl := h1; cases r1
    obtain rfl := h2; cases r2
    exact RcAt.bool_bool p q
  | .bl p, .int q => by
    intro x y v u A h1 h2 r1 r2 hp hq hu
    obtain rfl := h1; cases r1
    obtain rfl := h2; obtain ⟨t2, rfl⟩ := r2
    exact RcAt.bool_int p q t2
  | .bl p, .str q => by
    intro x y v u A h1 h2 r1 r2 hp hq hu
    obtain rfl := h1; cases r1
    obtain rfl := h2; obtain ⟨t2, rfl⟩ := r2
    exact RcAt.bool_str p q t2
  | .bl p, .tup q => by
    intro x y v u A h1 h2 r1 r2 hp hq hu
    obtain rfl := h1; cases r1
    obtain ⟨l2, vs2, rfl, sq2, ds2⟩ := h2; cases r2; obtain ⟨its2, rv2, pl2, z2⟩ := I.tuple sq2.sq
    exact RcAt.bool_tuple p (tupIs pl2) (by omega)
  | .bl p, .lst q => by
    intro x y v u A h1 h2 r1 r2 hp hq hu
    obtain rfl := h1; cases r1
    obtain ⟨l2, vs2, rfl, sq2, ds2⟩ := h2; cases r2; obtain ⟨its2, rv2, pl2, z2⟩ := I.list sq2
    exact RcAt.bool_list p pl2.isList (by omega)
  | .int p, .non => by
    intro x y v u A h1 h2 r1 r2 hp hq hu
    obtain rfl := h1; obtain ⟨t1, rfl⟩ := r1
    obtain rfl := h2; cases r2
    exact RcAt.int_none p t1
  | .int p, .bl q => by
    intro x y v u A h1 h2 r1 r2 hp hq hu
    obtain rfl := h1; obtain ⟨t1, rfl⟩ := r1
    obtain rfl := h2; cases r2
    exact RcAt.int_bool p t1 q
  | .int p, .int q => by
    intro x y v u A h1 h2 r1 r2 hp hq hu
    obtain rfl := h1; obtain ⟨t1, rfl⟩ := r1
    obtain rfl := h2; obtain ⟨t2, rfl⟩ := r2
    exact RcAt.int_int p t1 q t2
  | .int p, .str q => by
    intro x y v u A h1 h2 r1 r2 hp hq hu
    obtain rfl := h1; obtain ⟨t1, rfl⟩ := r1
    obtain rfl := h2; obtain ⟨t2, rfl⟩ := r2
    exact RcAt.int_str p t1 q t2
  | .int p, .tup q => by
    intro x y v u A h1 h2 r1 r2 hp hq hu
    obtain rfl := h1; obtain ⟨t1, rfl⟩ := r1
    obtain ⟨l2, vs2, rfl, sq2, ds2⟩ := h2; cases r2; obtain ⟨its2, rv2, pl2, z2⟩ := I.tuple sq2.sq
    exact RcAt.int_tuple p t1 (tupIs pl2) (by omega)
  | .int p, .lst q => by
    intro x y v u A h1 h2 r1 r2 hp hq hu
    obtain rfl := h1; obtain ⟨t1, rfl⟩ := r1
    obtain ⟨l2, vs2, rfl, sq2, ds2⟩ := h2; cases r2; obtain ⟨its2, rv2, pl2, z2⟩ := I.list sq2
    exact RcAt.int_list p t1 pl2.isList (by omega)
  | .str p, .non => by
    intro x y v u A h1 h2 r1 r2 hp hq hu
    obtain rfl := h1; obtain ⟨t1, rfl⟩ := r1
    obtain rfl := h2; cases r2
    exact RcAt.str_none p t1
  | .str p, .bl q => by
    intro x y v u A h1 h2 r1 r2 hp hq hu
    obtain rfl := h1; obtain ⟨t1, rfl⟩ := r1
    obtain rfl := h2; cases r2
    exact RcAt.str_bool p t1 q
  | .str p, .int q => by
    intro x y v u A h1 h2 r1 r2 hp hq hu
    obtain rfl := h1; obtain ⟨t1, rfl⟩ := r1
    obtain rfl := h2; obtain ⟨t2, rfl⟩ := r2
    exact RcAt.str_int p t1 q t2
  | .str p, .str q => by
    intro x y v u A h1 h2 r1 r2 hp hq hu
    obtain rfl := h1; obtain ⟨t1, rfl⟩ := r1
    obtain rfl := h2; obtain ⟨t2, rfl⟩ := r2
    exact RcAt.str_str p t1 q t2
  | .str p, .tup q => by
    intro x y v u A h1 h2 r1 r2 hp hq hu
    obtain rfl := h1; obtain ⟨t1, rfl⟩ := r1
    obtain ⟨l2, vs2, rfl, sq2, ds2⟩ := h2; cases r2; obtain ⟨its2, rv2, pl2, z2⟩ := I.tuple sq2.sq
    exact RcAt.str_tuple p t1 (tupIs pl2) (by omega)
  | .str p, .lst q => by
    intro x y v u A h1 h2 r1 r2 hp hq hu
    obtain rfl := h1; obtain ⟨t1, rfl⟩ := r1
    obtain ⟨l2, vs2, rfl, sq2, ds2⟩ := h2; cases r2; obtain ⟨its2, rv2, pl2, z2⟩ := I.list sq2
    exact RcAt.str_list p t1 pl2.isList (by omega)
  | .tup p, .non => by
    intro x y v u A h1 h2 r1 r2 hp hq hu
    obtain ⟨l1, vs1, rfl, sq1, ds1⟩ := h1; cases r1; obtain ⟨its1, rv1, pl1, z1⟩ := I.tuple sq1.sq
    obtain rfl := h2; cases r2
    exact RcAt.tuple_none (tupIs pl1) (by omega)
  | .tup p, .bl q => by
    intro x y v u A h1 h2 r1 r2 hp hq hu
    obtain ⟨l1, vs1, rfl, sq1, ds1⟩ := h1; cases r1; obtain ⟨its1, rv1, pl1, z1⟩ := I.tuple sq1.sq
    obtain rfl := h2; cases r2
    exact RcAt.tuple_bool q (tupIs pl1) (by omega)
  | .tup p, .int q => by
    intro x y v u A h1 h2 r1 r2 hp hq hu
    obtain ⟨l1, vs1, rfl, sq1, ds1⟩ := h1; cases r1; obtain ⟨its1, rv1, pl1, z1⟩ := I.tuple sq1.sq
    obtain rfl := h2; obtain ⟨t2, rfl⟩ := r2
    exact RcAt.tuple_int q t2 (tupIs pl1) (by omega)
  | .tup p, .str q => by
    intro x y v u A h1 h2 r1 r2 hp hq hu
    obtain ⟨l1, vs1, rfl, sq1, ds1⟩ := h1; cases r1; obtain ⟨its1, rv1, pl1, z1⟩ := I.tuple sq1.sq
    obtain rfl := h2; obtain ⟨t2, rfl⟩ := r2
    exact RcAt.tuple_str q t2 (tupIs pl1) (by omega)
  | .tup p, .tup q => by
    intro x y v u A h1 h2 r1 r2 hp hq hu
    obtain ⟨l1, vs1, rfl, sq1, ds1⟩ := h1; cases r1; obtain ⟨its1, rv1, pl1, z1⟩ := I.tuple sq1.sq
    obtain ⟨l2, vs2, rfl, sq2, ds2⟩ := h2; cases r2; obtain ⟨its2, rv2, pl2, z2⟩ := I.tuple sq2.sq
    have hl : s.heap.IsTuple l1 its1.toArray := tupIs pl1
    have hb : s.heap.IsTuple l2 its2.toArray := tupIs pl2
    have n1 : its1.toArray.size = p.length := by rw [List.size_toArray, ← rv1.length, ds1.length]
    have n2 : its2.toArray.size = q.length := by rw [List.size_toArray, ← rv2.length, ds2.length]
    have hu' : A.in1.units + min (D.depths p) (D.depths q) < cLine := by show A.units + 1 + _ < _; simp only [D.depth] at hu; omega
    have he : ∀ j (j1 : j < its1.toArray.size) (j2 : j < its2.toArray.size), EqAt A.in1 s its1.toArray[j] its2.toArray[j] (pairD p q j) := fun j j1 j2 => eqAt_Ds I p q vs1 vs2 its1 its2 A.in1 ds1 ds2 rv1 rv2 hp hq hu' j (by simpa using j1) (by simpa using j2)
    show RcAt A s (.ref l1) (.ref l2) (D.eqvs p q)
    rw [← eqvs_eq p q, ← n1, ← n2]
    exact RcAt.tuples hl hb (by omega) he
  | .tup p, .lst q => by
    intro x y v u A h1 h2 r1 r2 hp hq hu
    obtain ⟨l1, vs1, rfl, sq1, ds1⟩ := h1; cases r1; obtain ⟨its1, rv1, pl1, z1⟩ := I.tuple sq1.sq
    obtain ⟨l2, vs2, rfl, sq2, ds2⟩ := h2; cases r2; obtain ⟨its2, rv2, pl2, z2⟩ := I.list sq2
    exact RcAt.tuple_list (tupIs pl1) pl2.isList (by omega)
  | .lst p, .non => by
    intro x y v u A h1 h2 r1 r2 hp hq hu
    obtain ⟨l1, vs1, rfl, sq1, ds1⟩ := h1; cases r1; obtain ⟨its1, rv1, pl1, z1⟩ := I.list sq1
    obtain rfl := h2; cases r2
    exact RcAt.list_none pl1.isList (by omega)
  | .lst p, .bl q => by
    intro x y v u A h1 h2 r1 r2 hp hq hu
    obtain ⟨l1, vs1, rfl, sq1, ds1⟩ := h1; cases r1; obtain ⟨its1, rv1, pl1, z1⟩ := I.list sq1
    obtain rfl := h2; cases r2
    exact RcAt.list_bool q pl1.isList (by omega)
  | .lst p, .int q => by
    intro x y v u A h1 h2 r1 r2 hp hq hu
    obtain ⟨l1, vs1, rfl, sq1, ds1⟩ := h1; cases r1; obtain ⟨its1, rv1, pl1, z1⟩ := I.list sq1
    obtain rfl := h2; obtain ⟨t2, rfl⟩ := r2
    exact RcAt.list_int q t2 pl1.isList (by omega)
  | .lst p, .str q => by
    intro x y v u A h1 h2 r1 r2 hp hq hu
    obtain ⟨l1, vs1, rfl, sq1, ds1⟩ := h1; cases r1; obtain ⟨its1, rv1, pl1, z1⟩ := I.list sq1
    obtain rfl := h2; obtain ⟨t2, rfl⟩ := r2
    exact RcAt.list_str q t2 pl1.isList (by omega)
  | .lst p, .tup q => by
    intro x y v u A h1 h2 r1 r2 hp hq hu
    obtain ⟨l1, vs1, rfl, sq1, ds1⟩ := h1; cases r1; obtain ⟨its1, rv1, pl1, z1⟩ := I.list sq1
    obtain ⟨l2, vs2, rfl, sq2, ds2⟩ := h2; cases r2; obtain ⟨its2, rv2, pl2, z2⟩ := I.tuple sq2.sq
    exact RcAt.list_tuple pl1.isList (tupIs pl2) (by omega)
  | .lst p, .lst q => by
    intro x y v u A h1 h2 r1 r2 hp hq hu
    obtain ⟨l1, vs1, rfl, sq1, ds1⟩ := h1; cases r1; obtain ⟨its1, rv1, pl1, z1⟩ := I.list sq1
    obtain ⟨l2, vs2, rfl, sq2, ds2⟩ := h2; cases r2; obtain ⟨its2, rv2, pl2, z2⟩ := I.list sq2
    have hl : s.heap.IsList l1 its1.toArray := pl1.isList
    have hb : s.heap.IsList l2 its2.toArray := pl2.isList
    have n1 : its1.toArray.size = p.length := by rw [List.size_toArray, ← rv1.length, ds1.length]
    have n2 : its2.toArray.size = q.length := by rw [List.size_toArray, ← rv2.length, ds2.length]
    have hu' : A.in1.units + min (D.depths p) (D.depths q) < cLine := by show A.units + 1 + _ < _; simp only [D.depth] at hu; omega
    have he : ∀ j (j1 : j < its1.toArray.size) (j2 : j < its2.toArray.size), EqAt A.in1 s its1.toArray[j] its2.toArray[j] (pairD p q j) := fun j j1 j2 => eqAt_Ds I p q vs1 vs2 its1 its2 A.in1 ds1 ds2 rv1 rv2 hp hq hu' j (by simpa using j1) (by simpa using j2)
    show RcAt A s (.ref l1) (.ref l2) (D.eqvs p q)
    by_cases hsz : its1.toArray.size = its2.toArray.size
    · rw [← eqvs_same (by omega : p.length = q.length), ← n1]
      exact RcAt.lists hl hb hsz (by omega) he
    · rw [eqvs_other (by omega : p.length ≠ q.length)]
      exact RcAt.lists_lengths hl hb (by simpa using hsz) (by omega)
  | .dct _, _ => by
    intro x y v u A h1 h2 r1 r2 hp hq hu
    cases hp
  | .set _, _ => by
    intro x y v u A h1 h2 r1 r2 hp hq hu
    cases hp
  | .ref _, _ => by
    intro x y v u A h1 h2 r1 r2 hp hq hu
    cases hp
  | .fn _, _ => by
    intro x y v u A h1 h2 r1 r2 hp hq hu
    cases hp
  | .ty _, _ => by
    intro x y v u A h1 h2 r1 r2 hp hq hu
    cases hp
  | .non, .dct _ => by
    intro x y v u A h1 h2 r1 r2 hp hq hu
    cases hq
  | .bl _, .dct _ => by
    intro x y v u A h1 h2 r1 r2 hp hq hu
    cases hq
  | .int _, .dct _ => by
    intro x y v u A h1 h2 r1 r2 hp hq hu
    cases hq
  | .str _, .dct _ => by
    intro x y v u A h1 h2 r1 r2 hp hq hu
    cases hq
  | .tup _, .dct _ => by
    intro x y v u A h1 h2 r1 r2 hp hq hu
    cases hq
  | .lst _, .dct _ => by
    intro x y v u A h1 h2 r1 r2 hp hq hu
    cases hq
  | .non, .set _ => by
    intro x y v u A h1 h2 r1 r2 hp hq hu
    cases hq
  | .bl _, .set _ => by
    intro x y v u A h1 h2 r1 r2 hp hq hu
    cases hq
  | .int _, .set _ => by
    intro x y v u A h1 h2 r1 r2 hp hq hu
    cases hq
  | .str _, .set _ => by
    intro x y v u A h1 h2 r1 r2 hp hq hu
    cases hq
  | .tup _, .set _ => by
    intro x y v u A h1 h2 r1 r2 hp hq hu
    cases hq
  | .lst _, .set _ => by
    intro x y v u A h1 h2 r1 r2 hp hq hu
    cases hq
  | .non, .ref _ => by
    intro x y v u A h1 h2 r1 r2 hp hq hu
    cases hq
  | .bl _, .ref _ => by
    intro x y v u A h1 h2 r1 r2 hp hq hu
    cases hq
  | .int _, .ref _ => by
    intro x y v u A h1 h2 r1 r2 hp hq hu
    cases hq
  | .str _, .ref _ => by
    intro x y v u A h1 h2 r1 r2 hp hq hu
    cases hq
  | .tup _, .ref _ => by
    intro x y v u A h1 h2 r1 r2 hp hq hu
    cases hq
  | .lst _, .ref _ => by
    intro x y v u A h1 h2 r1 r2 hp hq hu
    cases hq
  | .non, .fn _ => by
    intro x y v u A h1 h2 r1 r2 hp hq hu
    cases hq
  | .bl _, .fn _ => by
    intro x y v u A h1 h2 r1 r2 hp hq hu
    cases hq
  | .int _, .fn _ => by
    intro x y v u A h1 h2 r1 r2 hp hq hu
    cases hq
  | .str _, .fn _ => by
    intro x y v u A h1 h2 r1 r2 hp hq hu
    cases hq
  | .tup _, .fn _ => by
    intro x y v u A h1 h2 r1 r2 hp hq hu
    cases hq
  | .lst _, .fn _ => by
    intro x y v u A h1 h2 r1 r2 hp hq hu
    cases hq
  | .non, .ty _ => by
    intro x y v u A h1 h2 r1 r2 hp hq hu
    cases hq
  | .bl _, .ty _ => by
    intro x y v u A h1 h2 r1 r2 hp hq hu
    cases hq
  | .int _, .ty _ => by
    intro x y v u A h1 h2 r1 r2 hp hq hu
    cases hq
  | .str _, .ty _ => by
    intro x y v u A h1 h2 r1 r2 hp hq hu
    cases hq
  | .tup _, .ty _ => by
    intro x y v u A h1 h2 r1 r2 hp hq hu
    cases hq
  | .lst _, .ty _ => by
    intro x y v u A h1 h2 r1 r2 hp hq hu
    cases hq
theorem neAt_D (I : Inv X pins σ W.H s) : ∀ (a b : D) (x y : V) (v u : Value) (A : Around), At X.K mg W a x → At X.K mg W b y → RelV x v → RelV y u → a.plain = true → b.plain = true →
    A.units + min a.depth b.depth < cLine → RcNeAt A s v u (!D.eqv a b)
  | .non, .non => by
    intro x y v u A h1 h2 r1 r2 hp hq hu
    obtain rfl := h1; cases r1
    obtain rfl := h2; cases r2
    exact RcNeAt.none_none 
  | .non, .bl q => by
    intro x y v u A h1 h2 r1 r2 hp hq hu
    obtain rfl := h1; cases r1
    obtain rfl := h2; cases r2
    exact RcNeAt.none_bool q
  | .non, .int q => by
    intro x y v u A h1 h2 r1 r2 hp hq hu
    obtain rfl := h1; cases r1
    obtain rfl := h2; obtain ⟨t2, rfl⟩ := r2
    exact RcNeAt.none_int q t2
  | .non, .str q => by
    intro x y v u A h1 h2 r1 r2 hp hq hu
    obtain rfl := h1; cases r1
    obtain rfl := h2; obtain ⟨t2, rfl⟩ := r2
    exact RcNeAt.none_str q t2
  | .non, .tup q => by
    intro x y v u A h1 h2 r1 r2 hp hq hu
    obtain rfl := h1; cases r1
    obtain ⟨l2, vs2, rfl, sq2, ds2⟩ := h2; cases r2; obtain ⟨its2, rv2, pl2, z2⟩ := I.tuple sq2.sq
    exact RcNeAt.none_tuple (tupIs pl2) (by omega)
  | .non, .lst q => by
    intro x y v u A h1 h2 r1 r2 hp hq hu
    obtain rfl := h1; cases r1
    obtain ⟨l2, vs2, rfl, sq2, ds2⟩ := h2; cases r2; obtain ⟨its2, rv2, pl2, z2⟩ := I.list sq2
    exact RcNeAt.none_list pl2.isList (by omega)
  | .bl p, .non => by
    intro x y v u A h1 h2 r1 r2 hp hq hu
    obtain rfl := h1; cases r1
    obtain rfl := h2; cases r2
    exact RcNeAt.bool_none p
  | .bl p, .bl q => by
    intro x y v u A h1 h2 r1 r2 hp hq hu
    obtain rfl := h1; cases r1
    obtain rfl := h2; cases r2
    exact RcNeAt.bool_bool p q
  | .bl p, .int q => by
    intro x y v u A h1 h2 r1 r2 hp hq hu
    obtain rfl := h1; cases r1
    obtain rfl := h2; obtain ⟨t2, rfl⟩ := r2
    exact RcNeAt.bool_int p q t2
  | .bl p, .str q => by
    intro x y v u A h1 h2 r1 r2 hp hq hu
    obtain rfl := h1; cases r1
    obtain rfl := h2; obtain ⟨t2, rfl⟩ := r2
    exact RcNeAt.bool_str p q t2
  | .bl p, .tup q => by
    intro x y v u A h1 h2 r1 r2 hp hq hu
    obtain rfl := h1; cases r1
    obtain ⟨l2, vs2, rfl, sq2, ds2⟩ := h2; cases r2; obtain ⟨its2, rv2, pl2, z2⟩ := I.tuple sq2.sq
    exact RcNeAt.bool_tuple p (tupIs pl2) (by omega)
  | .bl p, .lst q => by
    intro x y v u A h1 h2 r1 r2 hp hq hu
    obtain rfl := h1; cases r1
    obtain ⟨l2, vs2, rfl, sq2, ds2⟩ := h2; cases r2; obtain ⟨its2, rv2, pl2, z2⟩ := I.list sq2
    exact RcNeAt.bool_list p pl2.isList (by omega)
  | .int p, .non => by
    intro x y v u A h1 h2 r1 r2 hp hq hu
    obtain rfl := h1; obtain ⟨t1, rfl⟩ := r1
    obtain rfl := h2; cases r2
    exact RcNeAt.int_none p t1
  | .int p, .bl q => by
    intro x y v u A h1 h2 r1 r2 hp hq hu
    obtain rfl := h1; obtain ⟨t1, rfl⟩ := r1
    obtain rfl := h2; cases r2
    exact RcNeAt.int_bool p t1 q
  | .int p, .int q => by
    intro x y v u A h1 h2 r1 r2 hp hq hu
    obtain rfl := h1; obtain ⟨t1, rfl⟩ := r1
    obtain rfl := h2; obtain ⟨t2, rfl⟩ := r2
    exact RcNeAt.int_int p t1 q t2
  | .int p, .str q => by
    intro x y v u A h1 h2 r1 r2 hp hq hu
    obtain rfl := h1; obtain ⟨t1, rfl⟩ := r1
    obtain rfl := h2; obtain ⟨t2, rfl⟩ := r2
    exact RcNeAt.int_str p t1 q t2
  | .int p, .tup q => by
    intro x y v u A h1 h2 r1 r2 hp hq hu
    obtain rfl := h1; obtain ⟨t1, rfl⟩ := r1
    obtain ⟨l2, vs2, rfl, sq2, ds2⟩ := h2; cases r2; obtain ⟨its2, rv2, pl2, z2⟩ := I.tuple sq2.sq
    exact RcNeAt.int_tuple p t1 (tupIs pl2) (by omega)
  | .int p, .lst q => by
    intro x y v u A h1 h2 r1 r2 hp hq hu
    obtain rfl := h1; obtain ⟨t1, rfl⟩ := r1
    obtain ⟨l2, vs2, rfl, sq2, ds2⟩ := h2; cases r2; obtain ⟨its2, rv2, pl2, z2⟩ := I.list sq2
    exact RcNeAt.int_list p t1 pl2.isList (by omega)
  | .str p, .non => by
    intro x y v u A h1 h2 r1 r2 hp hq hu
    obtain rfl := h1; obtain ⟨t1, rfl⟩ := r1
    obtain rfl := h2; cases r2
    exact RcNeAt.str_none p t1
  | .str p, .bl q => by
    intro x y v u A h1 h2 r1 r2 hp hq hu
    obtain rfl := h1; obtain ⟨t1, rfl⟩ := r1
    obtain rfl := h2; cases r2
    exact RcNeAt.str_bool p t1 q
  | .str p, .int q => by
    intro x y v u A h1 h2 r1 r2 hp hq hu
    obtain rfl := h1; obtain ⟨t1, rfl⟩ := r1
    obtain rfl := h2; obtain ⟨t2, rfl⟩ := r2
    exact RcNeAt.str_int p t1 q t2
  | .str p, .str q => by
    intro x y v u A h1 h2 r1 r2 hp hq hu
    obtain rfl := h1; obtain ⟨t1, rfl⟩ := r1
    obtain rfl := h2; obtain ⟨t2, rfl⟩ := r2
    exact RcNeAt.str_str p t1 q t2
  | .str p, .tup q => by
    intro x y v u A h1 h2 r1 r2 hp hq hu
    obtain rfl := h1; obtain ⟨t1, rfl⟩ := r1
    obtain ⟨l2, vs2, rfl, sq2, ds2⟩ := h2; cases r2; obtain ⟨its2, rv2, pl2, z2⟩ := I.tuple sq2.sq
    exact RcNeAt.str_tuple p t1 (tupIs pl2) (by omega)
  | .str p, .lst q => by
    intro x y v u A h1 h2 r1 r2 hp hq hu
    obtain rfl := h1; obtain ⟨t1, rfl⟩ := r1
    obtain ⟨l2, vs2, rfl, sq2, ds2⟩ := h2; cases r2; obtain ⟨its2, rv2, pl2, z2⟩ := I.list sq2
    exact RcNeAt.str_list p t1 pl2.isList (by omega)
  | .tup p, .non => by
    intro x y v u A h1 h2 r1 r2 hp hq hu
    obtain ⟨l1, vs1, rfl, sq1, ds1⟩ := h1; cases r1; obtain ⟨its1, rv1, pl1, z1⟩ := I.tuple sq1.sq
    obtain rfl := h2; cases r2
    exact RcNeAt.tuple_none (tupIs pl1) (by omega)
  | .tup p, .bl q => by
    intro x y v u A h1 h2 r1 r2 hp hq hu
    obtain ⟨l1, vs1, rfl, sq1, ds1⟩ := h1; cases r1; obtain ⟨its1, rv1, pl1, z1⟩ := I.tuple sq1.sq
    obtain rfl := h2; cases r2
    exact RcNeAt.tuple_bool q (tupIs pl1) (by omega)
  | .tup p, .int q => by
    intro x y v u A h1 h2 r1 r2 hp hq hu
    obtain ⟨l1, vs1, rfl, sq1, ds1⟩ := h1; cases r1; obtain ⟨its1, rv1, pl1, z1⟩ := I.tuple sq1.sq
    obtain rfl := h2; obtain ⟨t2, rfl⟩ := r2
    exact RcNeAt.tuple_int q t2 (tupIs pl1) (by omega)
  | .tup p, .str q => by
    intro x y v u A h1 h2 r1 r2 hp hq hu
    obtain ⟨l1, vs1, rfl, sq1, ds1⟩ := h1; cases r1; obtain ⟨its1, rv1, pl1, z1⟩ := I.tuple sq1.sq
    obtain rfl := h2; obtain ⟨t2, rfl⟩ := r2
    exact RcNeAt.tuple_str q t2 (tupIs pl1) (by omega)
  | .tup p, .tup q => by
    intro x y v u A h1 h2 r1 r2 hp hq hu
    obtain ⟨l1, vs1, rfl, sq1, ds1⟩ := h1; cases r1; obtain ⟨its1, rv1, pl1, z1⟩ := I.tuple sq1.sq
    obtain ⟨l2, vs2, rfl, sq2, ds2⟩ := h2; cases r2; obtain ⟨its2, rv2, pl2, z2⟩ := I.tuple sq2.sq
    have hl : s.heap.IsTuple l1 its1.toArray := tupIs pl1
    have hb : s.heap.IsTuple l2 its2.toArray := tupIs pl2
    have n1 : its1.toArray.size = p.length := by rw [List.size_toArray, ← rv1.length, ds1.length]
    have n2 : its2.toArray.size = q.length := by rw [List.size_toArray, ← rv2.length, ds2.length]
    have hu' : A.in1.units + min (D.depths p) (D.depths q) < cLine := by show A.units + 1 + _ < _; simp only [D.depth] at hu; omega
    have he : ∀ j (j1 : j < its1.toArray.size) (j2 : j < its2.toArray.size), EqAt A.in1 s its1.toArray[j] its2.toArray[j] (pairD p q j) := fun j j1 j2 => eqAt_Ds I p q vs1 vs2 its1 its2 A.in1 ds1 ds2 rv1 rv2 hp hq hu' j (by simpa using j1) (by simpa using j2)
    show RcNeAt A s (.ref l1) (.ref l2) (!D.eqvs p q)
    rw [← eqvs_eq p q, ← n1, ← n2]
    exact RcNeAt.tuples hl hb (by omega) he
  | .tup p, .lst q => by
    intro x y v u A h1 h2 r1 r2 hp hq hu
    obtain ⟨l1, vs1, rfl, sq1, ds1⟩ := h1; cases r1; obtain ⟨its1, rv1, pl1, z1⟩ := I.tuple sq1.sq
    obtain ⟨l2, vs2, rfl, sq2, ds2⟩ := h2; cases r2; obtain ⟨its2, rv2, pl2, z2⟩ := I.list sq2
    exact RcNeAt.tuple_list (tupIs pl1) pl2.isList (by omega)
  | .lst p, .non => by
    intro x y v u A h1 h2 r1 r2 hp hq hu
    obtain ⟨l1, vs1, rfl, sq1, ds1⟩ := h1; cases r1; obtain ⟨its1, rv1, pl1, z1⟩ := I.list sq1
    obtain rfl := h2; cases r2
    exact RcNeAt.list_none pl1.isList (by omega)
  | .lst p, .bl q => by
    intro x y v u A h1 h2 r1 r2 hp hq hu
    obtain ⟨l1, vs1, rfl, sq1, ds1⟩ := h1; cases r1; obtain ⟨its1, rv1, pl1, z1⟩ := I.list sq1
    obtain rfl := h2; cases r2
    exact RcNeAt.list_bool q pl1.isList (by omega)
  | .lst p, .int q => by
    intro x y v u A h1 h2 r1 r2 hp hq hu
    obtain ⟨l1, vs1, rfl, sq1, ds1⟩ := h1; cases r1; obtain ⟨its1, rv1, pl1, z1⟩ := I.list sq1
    obtain rfl := h2; obtain ⟨t2, rfl⟩ := r2
    exact RcNeAt.list_int q t2 pl1.isList (by omega)
  | .lst p, .str q => by
    intro x y v u A h1 h2 r1 r2 hp hq hu
    obtain ⟨l1, vs1, rfl, sq1, ds1⟩ := h1; cases r1; obtain ⟨its1, rv1, pl1, z1⟩ := I.list sq1
    obtain rfl := h2; obtain ⟨t2, rfl⟩ := r2
    exact RcNeAt.list_str q t2 pl1.isList (by omega)
  | .lst p, .tup q => by
    intro x y v u A h1 h2 r1 r2 hp hq hu
    obtain ⟨l1, vs1, rfl, sq1, ds1⟩ := h1; cases r1; obtain ⟨its1, rv1, pl1, z1⟩ := I.list sq1
    obtain ⟨l2, vs2, rfl, sq2, ds2⟩ := h2; cases r2; obtain ⟨its2, rv2, pl2, z2⟩ := I.tuple sq2.sq
    exact RcNeAt.list_tuple pl1.isList (tupIs pl2) (by omega)
  | .lst p, .lst q => by
    intro x y v u A h1 h2 r1 r2 hp hq hu
    obtain ⟨l1, vs1, rfl, sq1, ds1⟩ := h1; cases r1; obtain ⟨its1, rv1, pl1, z1⟩ := I.list sq1
    obtain ⟨l2, vs2, rfl, sq2, ds2⟩ := h2; cases r2; obtain ⟨its2, rv2, pl2, z2⟩ := I.list sq2
    have hl : s.heap.IsList l1 its1.toArray := pl1.isList
    have hb : s.heap.IsList l2 its2.toArray := pl2.isList
    have n1 : its1.toArray.size = p.length := by rw [List.size_toArray, ← rv1.length, ds1.length]
    have n2 : its2.toArray.size = q.length := by rw [List.size_toArray, ← rv2.length, ds2.length]
    have hu' : A.in1.units + min (D.depths p) (D.depths q) < cLine := by show A.units + 1 + _ < _; simp only [D.depth] at hu; omega
    have he : ∀ j (j1 : j < its1.toArray.size) (j2 : j < its2.toArray.size), EqAt A.in1 s its1.toArray[j] its2.toArray[j] (pairD p q j) := fun j j1 j2 => eqAt_Ds I p q vs1 vs2 its1 its2 A.in1 ds1 ds2 rv1 rv2 hp hq hu' j (by simpa using j1) (by simpa using j2)
    show RcNeAt A s (.ref l1) (.ref l2) (!D.eqvs p q)
    by_cases hsz : its1.toArray.size = its2.toArray.size
    · rw [← eqvs_same (by omega : p.length = q.length), ← n1]
      exact RcNeAt.lists hl hb hsz (by omega) he
    · rw [eqvs_other (by omega : p.length ≠ q.length)]
      exact RcNeAt.lists_lengths hl hb (by simpa using hsz) (by omega)
  | .dct _, _ => by
    intro x y v u A h1 h2 r1 r2 hp hq hu
    cases hp
  | .set _, _ => by
    intro x y v u A h1 h2 r1 r2 hp hq hu
    cases hp
  | .ref _, _ => by
    intro x y v u A h1 h2 r1 r2 hp hq hu
    cases hp
  | .fn _, _ => by
    intro x y v u A h1 h2 r1 r2 hp hq hu
    cases hp
  | .ty _, _ => by
    intro x y v u A h1 h2 r1 r2 hp hq hu
    cases hp
  | .non, .dct _ => by
    intro x y v u A h1 h2 r1 r2 hp hq hu
    cases hq
  | .bl _, .dct _ => by
    intro x y v u A h1 h2 r1 r2 hp hq hu
    cases hq
  | .int _, .dct _ => by
    intro x y v u A h1 h2 r1 r2 hp hq hu
    cases hq
  | .str _, .dct _ => by
    intro x y v u A h1 h2 r1 r2 hp hq hu
    cases hq
  | .tup _, .dct _ => by
    intro x y v u A h1 h2 r1 r2 hp hq hu
    cases hq
  | .lst _, .dct _ => by
    intro x y v u A h1 h2 r1 r2 hp hq hu
    cases hq
  | .non, .set _ => by
    intro x y v u A h1 h2 r1 r2 hp hq hu
    cases hq
  | .bl _, .set _ => by
    intro x y v u A h1 h2 r1 r2 hp hq hu
    cases hq
  | .int _, .set _ => by
    intro x y v u A h1 h2 r1 r2 hp hq hu
    cases hq
  | .str _, .set _ => by
    intro x y v u A h1 h2 r1 r2 hp hq hu
    cases hq
  | .tup _, .set _ => by
    intro x y v u A h1 h2 r1 r2 hp hq hu
    cases hq
  | .lst _, .set _ => by
    intro x y v u A h1 h2 r1 r2 hp hq hu
    cases hq
  | .non, .ref _ => by
    intro x y v u A h1 h2 r1 r2 hp hq hu
    cases hq
  | .bl _, .ref _ => by
    intro x y v u A h1 h2 r1 r2 hp hq hu
    cases hq
  | .int _, .ref _ => by
    intro x y v u A h1 h2 r1 r2 hp hq hu
    cases hq
  | .str _, .ref _ => by
    intro x y v u A h1 h2 r1 r2 hp hq hu
    cases hq
  | .tup _, .ref _ => by
    intro x y v u A h1 h2 r1 r2 hp hq hu
    cases hq
  | .lst _, .ref _ => by
    intro x y v u A h1 h2 r1 r2 hp hq hu
    cases hq
  | .non, .fn _ => by
    intro x y v u A h1 h2 r1 r2 hp hq hu
    cases hq
  | .bl _, .fn _ => by
    intro x y v u A h1 h2 r1 r2 hp hq hu
    cases hq
  | .int _, .fn _ => by
    intro x y v u A h1 h2 r1 r2 hp hq hu
    cases hq
  | .str _, .fn _ => by
    intro x y v u A h1 h2 r1 r2 hp hq hu
    cases hq
  | .tup _, .fn _ => by
    intro x y v u A h1 h2 r1 r2 hp hq hu
    cases hq
  | .lst _, .fn _ => by
    intro x y v u A h1 h2 r1 r2 hp hq hu
    cases hq
  | .non, .ty _ => by
    intro x y v u A h1 h2 r1 r2 hp hq hu
    cases hq
  | .bl _, .ty _ => by
    intro x y v u A h1 h2 r1 r2 hp hq hu
    cases hq
  | .int _, .ty _ => by
    intro x y v u A h1 h2 r1 r2 hp hq hu
    cases hq
  | .str _, .ty _ => by
    intro x y v u A h1 h2 r1 r2 hp hq hu
    cases hq
  | .tup _, .ty _ => by
    intro x y v u A h1 h2 r1 r2 hp hq hu
    cases hq
  | .lst _, .ty _ => by
    intro x y v u A h1 h2 r1 r2 hp hq hu
    cases hq
end
end Ly
/-! Ly: operators. -/
namespace Ly
open PySem PySem.Spec PyProof.Rows L2 PySem.SeqAt

/-- a new object, tracked -/
abbrev Wd.new (W : Wd) (p : Addr) (o : HO) : Wd := ⟨W.ρ, W.F, upd W.H p o⟩
section
variable {K : PySem.W.Frag} {mg : MG} {W W' : Wd} {S : Sto} {d : D} {v : V} {p : Addr} {o : HO} {xs : List D} {vs : List V}
theorem Ext.new (hn : W.H p = none) : Ext W (W.new p o) where
  keep := fun a u h _ => by show upd W.H p o a = _; rw [upd_ne (fun e => by subst e; rw [hn] at h; cases h)]; exact h
  pre := List.prefix_refl _
  fsub := fun _ h => h
  fnew := fun _ h => .inl h
  dom := fun a h => by
    show upd W.H p o a ≠ none
    by_cases e : a = p
    · subst e; rw [upd_same]; simp
    · rw [upd_ne e]; exact h
  rnew := fun _ h => .inl h
theorem RepO.ext (x : Ext W W') (hs : ∀ a ∈ W.ρ, W.F a) {a : Addr} {mo : MO} (e : ∀ u, W.H a = some u → W'.H a = some u) (h : RepO K mg W a mo) : RepO K mg W' a mo := by
  cases mo with
  | lst xs => obtain ⟨vs, h1, h2⟩ := h; exact ⟨vs, e _ h1, h2.ext x hs⟩
  | dct kvs => obtain ⟨es, ep, h1, h2, h3⟩ := h; exact ⟨es, ep, e _ h1, h2.ext x hs, h3⟩
  | ins c fs => exact h
  | dead => trivial
theorem Rep.new (R : Rep K mg W S) (hn : W.H p = none) : Rep K mg (W.new p o) S where
  len := R.len
  nd := R.nd
  sub := R.sub
  dom := fun a h => (Ext.new hn).dom a (R.dom a h)
  obj := fun n mo a h1 h2 => (R.obj n mo a h1 h2).ext (Ext.new hn) R.sub fun u e => by
    show upd W.H p o a = _
    rw [upd_ne (fun z => by subst z; rw [hn] at e; cases e)]; exact e
theorem Rep.nF (R : Rep K mg W S) (hn : W.H p = none) : ¬ W.F p := fun h => R.dom p h hn
theorem new_lst (R : Rep K mg W S) (hn : W.H p = none) (r : RepDs K mg W xs vs) : RepD K mg (W.new p (.lst vs)) (.lst xs) (.ref p) :=
  .lst (.inl ⟨.inl upd_same, R.nF hn⟩) (r.ext (Ext.new hn) R.sub)
theorem new_tup (R : Rep K mg W S) (hn : W.H p = none) (r : RepDs K mg W xs vs) : RepD K mg (W.new p (.tup vs)) (.tup xs) (.ref p) :=
  .tup (.inl ⟨.inl upd_same, R.nF hn⟩) (r.ext (Ext.new hn) R.sub)
theorem new_dct {es : List DictEntry} {ep : Nat} {kvs : List (D × D)} (R : Rep K mg W S) (hn : W.H p = none) (r : Ents K mg W kvs es) (o : DOk kvs) : RepD K mg (W.new p (DictO p es ep)) (.dct kvs) (.ref p) :=
  .dct ⟨.inl upd_same, R.nF hn⟩ (r.ext (Ext.new hn) R.sub) o
theorem At.lst_inv (h : At K mg W (.lst xs) v) : ∃ a vs, v = .ref a ∧ SqL K W.H a vs ∧ RepDs K mg W xs vs := h
theorem At.tup_inv (h : At K mg W (.tup xs) v) : ∃ a vs, v = .ref a ∧ TAt K W a vs ∧ RepDs K mg W xs vs := h
theorem TAt.repD {a : Addr} (h : TAt K W a vs) (r : RepDs K mg W xs vs) : RepD K mg W (.tup xs) (.ref a) := .tup h r
end

/-- what follows a value that is made -/
def Then (K : PySem.W.Frag) (mg : MG) (W : Wd) (S : Sto) (d : D) (Q : VK) : Prop :=
  ∀ W' v, Ext W W' → Rep K mg W' S → RepD K mg W' d v → Q v W'.H
section
variable {K : PySem.W.Frag} {mg : MG} {W : Wd} {S : Sto} {Q : VK} {xs : List D} {vs : List V}
theorem Then.here {d : D} {v : V} (q : Then K mg W S d Q) (R : Rep K mg W S) (r : RepD K mg W d v) : Q v W.H := q W v (Ext.refl W) R r
theorem Then.lst (q : Then K mg W S (.lst xs) Q) (R : Rep K mg W S) (r : RepDs K mg W xs vs) (p : Addr) (hn : W.H p = none) : Q (.ref p) (upd W.H p (.lst vs)) :=
  q (W.new p (.lst vs)) _ (Ext.new hn) (R.new hn) (new_lst R hn r)
theorem Then.dct {es : List DictEntry} {ep : Nat} {kvs : List (D × D)} (q : Then K mg W S (.dct kvs) Q) (R : Rep K mg W S) (r : Ents K mg W kvs es) (o : DOk kvs) (p : Addr) (hn : W.H p = none) : Q (.ref p) (upd W.H p (DictO p es ep)) :=
  q (W.new p (DictO p es ep)) _ (Ext.new hn) (R.new hn) (new_dct R hn r o)
theorem Then.tup (q : Then K mg W S (.tup xs) Q) (R : Rep K mg W S) (r : RepDs K mg W xs vs) (p : Addr) (hn : W.H p = none) : Q (.ref p) (upd W.H p (.tup vs)) :=
  q (W.new p (.tup vs)) _ (Ext.new hn) (R.new hn) (new_tup R hn r)
end

def bopO : Bop → Operator
  | .add => .Add | .sub => .Sub | .mul => .Mult | .fdiv => .FloorDiv | .mod => .Mod | .pow => .Pow
def copO : Cop → CmpOp
  | .eq => .Eq | .ne => .NotEq | .lt => .Lt | .le => .LtE | .gt => .Gt | .ge => .GtE | .is_ => .Is | .isnot => .IsNot | .in_ => .In | .notin => .NotIn

/-! ### a tuple, a list, a text, so many times -/
theorem tuple_mulSame (l : Addr) (items : Array Value) (n : Nat) (dd : Option Addr) (sl : Array (Option Value)) (x : Int) (u : Tok) (c0 : (decide (x < -(2 ^ 63)) || decide (x ≥ 2 ^ 63)) = false) (c1 : (items.isEmpty || x == 1) = true) :
    Meets (Builtin.«tuple.__mul__» ⟨[.ref l, .int x u], []⟩) (fun _ R s => s.heap.get? l = some { cls := .type "tuple", dict := dd, data := .seq items n, slots := sl } ∧ R (.ok (.ret (.ref l))) s) :=
  .of_wp fun prog w A R s h => by
    obtain ⟨hp, g, d, tk, os⟩ := s
    obtain ⟨hl, h⟩ := h
    have f1 := AutoSeq1.idx_int
    wp_walk using wpAny_loadPart' hl
    refine wpAny_ite_false (decide_eq_false (by rw [c0]; exact Bool.false_ne_true)) ?_
    wp_walk using wpAny_loadPart' hl
    exact ⟨_, rfl, h⟩
theorem tuple_mulNone (l : Addr) (items : Array Value) (n : Nat) (dd : Option Addr) (sl : Array (Option Value)) (x : Int) (u : Tok) (c0 : (decide (x < -(2 ^ 63)) || decide (x ≥ 2 ^ 63)) = false) (c1 : (items.isEmpty || x == 1) = false) (c2 : (decide (x ≤ 0) || items.isEmpty) = true) :
    Meets (Builtin.«tuple.__mul__» ⟨[.ref l, .int x u], []⟩) (fun _ R s => s.heap.get? l = some { cls := .type "tuple", dict := dd, data := .seq items n, slots := sl } ∧
      R (.ok (.ret (Value.ref s.heap.objs.size))) { s with heap := s.heap.push { cls := Value.type "tuple", data := Data.seq #[] }, toks := s.toks }) :=
  .of_wp fun prog w A R s h => by
    obtain ⟨hp, g, d, tk, os⟩ := s
    obtain ⟨hl, h⟩ := h
    have f1 := AutoSeq1.idx_int
    wp_walk using wpAny_loadPart' hl
    refine wpAny_ite_false (decide_eq_false (by rw [c0]; exact Bool.false_ne_true)) ?_
    wp_walk using wpAny_loadPart' hl
    exact ⟨_, rfl, h⟩
section
variable {X : Cx} {pins : List (Addr × Obj)} {σ : L2.St} {H : Hp} {s : Shared}
theorem tupleRepFits {n : Nat} {k : Int} (hk : 2 ≤ k) (hz : n * k.toNat ≤ sizeLine) : ((n : Nat) : Int) * k ≤ 16777216 := by
  have e : ((n * k.toNat : Nat) : Int) = (n : Int) * k := by rw [Int.natCast_mul, Int.toNat_of_nonneg (by omega)]
  rw [sizeLine_eq] at hz
  omega
theorem tup_times1 {l : Addr} {xs : List V} {k : Int} {t : Tok} {Q : VK} (I : Inv X pins σ H s) (hT : SqT X.K H l xs) (hne : xs = [] ∨ k = 1) (h1 : -(2 ^ 62) < k) (h2 : k < 2 ^ 62)
    (q : Q (.ref l) H) : wpAny (model X.prog X.w) X.A (binaryOp .Mult (.ref l) (.int k t)) (EP X pins σ Q) X.xe s := by
  obtain ⟨its, r, ⟨⟨cls, dd, data, sl⟩, ho, hc, n, hd⟩, hs⟩ := I.tuple hT
  simp only at hc hd
  subst hc hd
  have d0 : (decide (k < -(2 ^ 63)) || decide (k ≥ 2 ^ 63)) = false := by simp; omega
  have d1 : (its.toArray.isEmpty || k == 1) = true := by
    rcases hne with e | e
    · subst e
      cases r
      rfl
    · subst e; simp
  refine wpAny_binaryOp_repeat_ref (T := "tuple") (U := "int") (by decide) ⟨_, ho, rfl⟩ (fun s' => typeIs_int s' k t) noFill_tuple_mul F.fills_int_mul F.slot_int_rmul repeat_tuple F.slot_int_index.lookup
    (call_meets F.slot_int_rmul (typeIs_int s k t) F.entry_int_rmul (F.args_int_rmul_2 _ _) (int_rmul_tuple k t l its.toArray n dd sl)
      ⟨ho, rfl, ⟨_, ho, rfl⟩, call_meets F.slot_tuple_mul ⟨_, ho, rfl⟩ F.entry_tuple_mul (F.args_tuple_mul_2 _ _) (tuple_mulSame l its.toArray n dd sl k t d0 d1) ⟨ho, ?_⟩⟩)
  exact ⟨.ref l, _, I, rfl, q⟩
theorem tup_times0 {l : Addr} {xs : List V} {k : Int} {t : Tok} {Q : VK} (I : Inv X pins σ H s) (hT : SqT X.K H l xs) (hne : xs ≠ []) (h1 : k ≤ 0) (h2 : -(2 ^ 62) < k)
    (q : ∀ p, H p = none → Q (.ref p) (upd H p (.tup []))) : wpAny (model X.prog X.w) X.A (binaryOp .Mult (.ref l) (.int k t)) (EP X pins σ Q) X.xe s := by
  obtain ⟨its, r, ⟨⟨cls, dd, data, sl⟩, ho, hc, n, hd⟩, hs⟩ := I.tuple hT
  simp only at hc hd
  subst hc hd
  have hle : its.length = xs.length := r.length.symm
  obtain ⟨i0, ir, rfl⟩ : ∃ i0 ir, its = i0 :: ir := by
    cases its with
    | nil => exact absurd (List.eq_nil_of_length_eq_zero hle.symm) hne
    | cons a b => exact ⟨a, b, rfl⟩
  have d0 : (decide (k < -(2 ^ 63)) || decide (k ≥ 2 ^ 63)) = false := by simp; omega
  have d1 : ((i0 :: ir).toArray.isEmpty || k == 1) = false := by simp; omega
  have d2 : (decide (k ≤ 0) || (i0 :: ir).toArray.isEmpty) = true := by simp; omega
  refine wpAny_binaryOp_repeat_ref (T := "tuple") (U := "int") (by decide) ⟨_, ho, rfl⟩ (fun s' => typeIs_int s' k t) noFill_tuple_mul F.fills_int_mul F.slot_int_rmul repeat_tuple F.slot_int_index.lookup
    (call_meets F.slot_int_rmul (typeIs_int s k t) F.entry_int_rmul (F.args_int_rmul_2 _ _) (int_rmul_tuple k t l _ n dd sl)
      ⟨ho, rfl, ⟨_, ho, rfl⟩, call_meets F.slot_tuple_mul ⟨_, ho, rfl⟩ F.entry_tuple_mul (F.args_tuple_mul_2 _ _) (tuple_mulNone l _ n dd sl k t d0 d1 d2) ⟨ho, ?_⟩⟩)
  refine ⟨.ref s.heap.objs.size, _, I.laid (t' := s.toks) (o := .tup []) (fun b ob q => Heap.get?_push_of_some _ q) (Nat.le_refl _) ?_, rfl, q _ (I.hok.fresh (Nat.le_refl _))⟩
  exact ⟨Nat.zero_le _, [], .nil, IsTup.new _ _⟩
theorem tup_times {l : Addr} {xs : List V} {k : Int} {t : Tok} {Q : VK} (I : Inv X pins σ H s) (hT : SqT X.K H l xs) (hne : xs ≠ []) (h1 : 2 ≤ k) (h2 : k < 2 ^ 62) (hz : xs.length * k.toNat ≤ sizeLine)
    (q : ∀ p, H p = none → Q (.ref p) (upd H p (.tup (List.replicate k.toNat xs).flatten))) : wpAny (model X.prog X.w) X.A (binaryOp .Mult (.ref l) (.int k t)) (EP X pins σ Q) X.xe s := by
  obtain ⟨its, r, ⟨⟨cls, dd, data, sl⟩, ho, hc, n, hd⟩, hs⟩ := I.tuple hT
  simp only at hc hd
  subst hc hd
  have hle : its.length = xs.length := r.length.symm
  obtain ⟨i0, ir, rfl⟩ : ∃ i0 ir, its = i0 :: ir := by
    cases its with
    | nil => exact absurd (List.eq_nil_of_length_eq_zero hle.symm) hne
    | cons a b => exact ⟨a, b, rfl⟩
  generalize hits : i0 :: ir = its at *
  have hem : its.toArray.isEmpty = false := by rw [← hits]; rfl
  have hsz0 : its.toArray.size = xs.length := by rw [List.size_toArray, hle]
  have hm := tupleRepFits h1 hz
  rw [← hsz0] at hm
  have flen : (List.replicate k.toNat its).flatten.length ≤ sizeLine := by
    rw [PyProof.Rows.lm_len_rep_flat, hle, Nat.mul_comm]; exact hz
  have d0 : (decide (k < -(2 ^ 63)) || decide (k ≥ 2 ^ 63)) = false := by simp; omega
  have d1 : (its.toArray.isEmpty || k == 1) = false := by rw [hem]; simp; omega
  have d2 : (decide (k ≤ 0) || its.toArray.isEmpty) = false := by rw [hem]; simp; omega
  have d4 : Builtin.Tuple.tupleTooMany (((its.toArray.size : Nat) : Int) * k) = false := by
    unfold Builtin.Tuple.tupleTooMany
    rw [sizeLine_eq]
    exact decide_eq_false (by omega)
  have M := tuple_mulW l its.toArray n dd sl k t d0 d1 d2 (by omega) d4 (by rw [size_rep, List.size_toArray]; exact flen)
  refine wpAny_binaryOp_repeat_ref (T := "tuple") (U := "int") (by decide) ⟨_, ho, rfl⟩ (fun s' => typeIs_int s' k t) noFill_tuple_mul F.fills_int_mul F.slot_int_rmul repeat_tuple F.slot_int_index.lookup
    (call_meets F.slot_int_rmul (typeIs_int s k t) F.entry_int_rmul (F.args_int_rmul_2 _ _) (int_rmul_tuple k t l its.toArray n dd sl)
      ⟨ho, rfl, ⟨_, ho, rfl⟩, call_meets F.slot_tuple_mul ⟨_, ho, rfl⟩ F.entry_tuple_mul (F.args_tuple_mul_2 _ _) M ⟨ho, ?_⟩⟩)
  rw [size_rep]
  refine ⟨.ref s.heap.objs.size, _, I.laid (t' := s.toks) (o := .tup (List.replicate k.toNat xs).flatten) (fun b ob q => Heap.get?_push_of_some _ q) (Nat.le_refl _) ?_, rfl, q _ (I.hok.fresh (Nat.le_refl _))⟩
  exact ⟨by rw [PyProof.Rows.lm_len_rep_flat, Nat.mul_comm]; exact hz, _, r.rep k.toNat, IsTup.new _ _⟩
end

/-! ### binary operators -/
theorem listRepW (l : Addr) (items : Array Value) (n : Nat) (dd : Option Addr) (sl : Array (Option Value)) (x : Int) (u : Tok) (c0 : ¬(!Builtin.List.listFitsIndex x) = true) (c1 : ¬items.size * x.toNat > (2 ^ 63 - 1) / 8) (c2 : ¬Builtin.List.listTooLong (items.size * x.toNat) = true)
    (hsz : (List.foldl (fun x1 x2 => x1 ++ x2) #[] (List.replicate (if items.isEmpty = true then 0 else x.toNat) items)).size ≤ sizeLine) :
    Meets (Builtin.«list.__mul__» ⟨[.ref l, .int x u], []⟩) (fun _ R s => s.heap.get? l = some { cls := .type "list", dict := dd, data := .seq items n, slots := sl } ∧
      R (.ok (.ret (Value.ref s.heap.objs.size))) { s with heap := s.heap.push { cls := Value.type "list", data := Data.seq (List.foldl (fun x1 x2 => x1 ++ x2) #[] (List.replicate (if items.isEmpty = true then 0 else x.toNat) items)) }, toks := s.toks }) :=
  .of_wp fun prog w A R s h => by
    obtain ⟨hp, g, d, tk, os⟩ := s
    obtain ⟨hl, h⟩ := h
    have f1 := AutoSeq1.idx_int
    wp_walk using AutoSeq1.wpAny_loadPart' hl
    refine wpAny_ite_false (decide_eq_false (Nat.not_lt.mpr hsz)) ?_
    wp_walk using AutoSeq1.wpAny_loadPart' hl
    exact ⟨_, rfl, h⟩
theorem intRmulList (a : Int) (t : Tok) (l : Addr) (items : Array Value) (n : Nat) (dd : Option Addr) (sl : Array (Option Value)) :
    Meets (Builtin.«int.__rmul__» ⟨[.int a t, .ref l], []⟩) (fun _ R s => s.heap.get? l = some { cls := .type "list", dict := dd, data := .seq items n, slots := sl } ∧ R (.ok (.ret Value.notImplemented)) s) :=
  .of_wp fun prog w A R s h => by
    obtain ⟨hp, g, d, tk, os⟩ := s
    obtain ⟨hl, h⟩ := h
    wp_walk using AutoSeq1.wpAny_loadPart' hl
    exact ⟨_, rfl, h⟩
section
variable {X : Cx} {pins : List (Addr × Obj)} {σ : L2.St} {H : Hp} {s : Shared}
theorem list_times {l : Addr} {xs : List V} {k : Int} {t : Tok} {Q : VK} (I : Inv X pins σ H s) (hT : SqL X.K H l xs) (h1 : -(2 ^ 62) < k) (h2 : k < 2 ^ 62) (hz : xs.length * k.toNat ≤ sizeLine)
    (q : ∀ p, H p = none → Q (.ref p) (upd H p (.lst (List.replicate k.toNat xs).flatten))) : wpAny (model X.prog X.w) X.A (binaryOp .Mult (.ref l) (.int k t)) (EP X pins σ Q) X.xe s := by
  obtain ⟨its, r, ⟨⟨cls, dd, data, sl⟩, n, ho, hc, _, hd⟩, hs⟩ := I.list hT
  simp only at hc hd
  subst hc hd
  have hle : its.length = xs.length := r.length.symm
  have flat : (if its.toArray.isEmpty = true then 0 else k.toNat) = k.toNat ∨ its = [] := by
    cases its with
    | nil => exact .inr rfl
    | cons a b => exact .inl (if_neg (by simp))
  have hnew : List.foldl (fun x1 x2 => x1 ++ x2) #[] (List.replicate (if its.toArray.isEmpty = true then 0 else k.toNat) its.toArray) = (List.replicate k.toNat its).flatten.toArray := by
    rw [size_rep]
    rcases flat with e | e
    · rw [e]
    · subst e; simp
  have hlen : its.toArray.size * k.toNat ≤ sizeLine := by rw [List.size_toArray, hle]; exact hz
  have d1 : ¬ its.toArray.size * k.toNat > (2 ^ 63 - 1) / 8 := by
    have : (sizeLine : Nat) ≤ (2 ^ 63 - 1) / 8 := by decide
    omega
  have d0 : ¬ (!Builtin.List.listFitsIndex k) = true := by
    rw [fitsIndex_both (by omega) (by omega)]
    exact Bool.false_ne_true
  have d2 : ¬ Builtin.List.listTooLong (its.toArray.size * k.toNat) = true := by
    rw [notLongL hlen]
    exact Bool.false_ne_true
  have flen : (List.replicate k.toNat xs).flatten.length ≤ sizeLine := by
    rw [PyProof.Rows.lm_len_rep_flat, Nat.mul_comm]; exact hz
  have M := listRepW l its.toArray n dd sl k t d0 d1 d2 (by rw [hnew, List.size_toArray, PyProof.Rows.lm_len_rep_flat, hle, Nat.mul_comm]; exact hz)
  refine wpAny_binaryOp_repeat_ref (T := "list") (U := "int") (by decide) ⟨_, ho, rfl⟩ (fun s' => typeIs_int s' k t) noFill_list_mul F.fills_int_mul F.slot_int_rmul repeat_list F.slot_int_index.lookup
    (call_meets F.slot_int_rmul (typeIs_int s k t) F.entry_int_rmul (F.args_int_rmul_2 _ _) (intRmulList k t l its.toArray n dd sl)
      ⟨ho, rfl, ⟨_, ho, rfl⟩, call_meets F.slot_list_mul ⟨_, ho, rfl⟩ F.entry_list_mul (F.args_list_mul_2 _ _) M ⟨ho, ?_⟩⟩)
  rw [hnew]
  exact ⟨.ref _, _, I.lnew (t' := s.toks) (r.rep k.toNat) flen, rfl, q _ I.fresh⟩
theorem list_plus {l b : Addr} {xs ys : List V} {Q : VK} (I : Inv X pins σ H s) (hT : SqL X.K H l xs) (hB : SqL X.K H b ys) (hz : xs.length + ys.length ≤ sizeLine)
    (q : ∀ p, H p = none → Q (.ref p) (upd H p (.lst (xs ++ ys)))) : wpAny (model X.prog X.w) X.A (binaryOp .Add (.ref l) (.ref b)) (EP X pins σ Q) X.xe s := by
  obtain ⟨its, r, ⟨⟨cls, dd, data, sl⟩, n, ho, hc, _, hd⟩, hs⟩ := I.list hT
  obtain ⟨its2, r2, ⟨⟨cls2, dd2, data2, sl2⟩, n2, ho2, hc2, _, hd2⟩, hs2⟩ := I.list hB
  simp only at hc hd hc2 hd2
  subst hc hd hc2 hd2
  have e1 := r.length
  have e2 := r2.length
  have ea : its.toArray ++ its2.toArray = (its ++ its2).toArray := by simp
  refine concat_meets ⟨_, ho, rfl⟩ ⟨_, ho2, rfl⟩ noFill_list_add seq_list_add F.slot_list_add F.entry_list_add (F.args_list_add_2 _ _) (list_addW l b its.toArray its2.toArray n n2 dd dd2 sl sl2 (by rw [List.size_toArray, List.size_toArray]; omega)) ⟨ho, ho2, ?_⟩
  rw [ea]
  exact ⟨.ref _, _, I.lnew (t' := s.toks) (r.append r2) (by rw [List.length_append]; omega), rfl, q _ I.fresh⟩
theorem txt_times (z : Str) (k : Int) : Txt.mul z k = repS z k := by
  unfold Txt.mul repS
  apply Str.ext'
  apply Array.toList_inj.mp
  have foldE : ∀ m : Nat, (List.replicate m z.cps).foldl (fun x1 x2 => x1 ++ x2) #[] = ((List.replicate m z.cps.toList).flatten).toArray := fun m => by
    have e : List.replicate m z.cps = (List.replicate m z.cps.toList).map List.toArray := by simp
    rw [e]
    have g : ∀ (l : List (List Nat)) (acc : List Nat), (l.map List.toArray).foldl (fun x1 x2 => x1 ++ x2) acc.toArray = (acc ++ l.flatten).toArray := by
      intro l
      induction l with
      | nil => intro acc; simp
      | cons a r ih => intro acc; rw [List.map_cons, List.foldl_cons, List.append_toArray, ih]; simp
    have := g (List.replicate m z.cps.toList) []
    simpa using this
  split
  · rename_i h
    have : k.toNat = 0 := by omega
    rw [this]; rfl
  · split
    · rename_i h1 h2
      rw [Bool.or_eq_true] at h2
      rcases h2 with h2 | h2
      · have : k = 1 := by simpa using h2
        subst this
        simp
      · have hz : z.cps.toList = [] := by
          have : z.length = 0 := by simpa using h2
          exact List.eq_nil_of_length_eq_zero (by simpa [Str.length] using this)
        rw [hz]; simp
    · rw [foldE]
/-- a op b by the trees -/
def rBin (K : PySem.W.Frag) (mg : MG) (o : Bop) : R2 := fun x y H Q => ∃ W S a b d, W.H = H ∧ Rep K mg W S ∧ At K mg W a x ∧ At K mg W b y ∧ binop o a b = some d ∧ Then K mg W S d Q
theorem mulOk_ok {i j : Int} (h : mulOk i j = true) : IntMulOk i j := by
  unfold mulOk at h
  simp only [Bool.or_eq_true, decide_eq_true_eq] at h
  rcases h with (h | h) | h
  · exact CMul.ok (.inl ⟨by omega, by omega⟩)
  · exact CMul.ok (.inr ⟨by omega, by omega⟩)
  · exact CMulW.ok h
theorem op_bin (o : Bop) (mg : MG) : OpR X (binaryOp (bopO o)) (rBin X.K mg o) := by
  intro pins s σ H x y v u Q I rx ry h
  obtain ⟨W, S, a, b, d, rfl, R, h1, h2, e, q⟩ := h
  unfold binop at e
  split at e
  · obtain rfl := h1; obtain rfl := h2; cases e
    exact op_add pins s σ W.H _ _ v u Q I rx ry ⟨_, _, rfl, rfl, q.here R (.int _)⟩
  · obtain rfl := h1; obtain rfl := h2
    split at e
    · rename_i hz; cases e
      exact op_add_str pins s σ W.H _ _ v u Q I rx ry ⟨_, _, rfl, rfl, by rw [← line_eq]; exact hz, q.here R (.str _)⟩
    · cases e
  · obtain ⟨p, vs, rfl, t1, r1⟩ := h1
    obtain ⟨p', vs', rfl, t2, r2⟩ := h2
    split at e
    · rename_i hz; cases e
      have l1 := r1.length
      have l2 := r2.length
      refine op_catA pins s σ W.H _ _ v u Q I rx ry ⟨_, _, _, _, rfl, rfl, t1.sq, t2.sq, by rw [← line_eq]; omega, fun e => ?_, fun _ e => ?_, fun _ _ p hn => ?_⟩
      · subst e
        cases r1
        exact q.here R (.tup t2 r2)
      · subst e
        cases r2
        rw [List.append_nil] at q
        exact q.here R (.tup t1 r1)
      · exact q.tup R (r1.append r2) p hn
    · cases e
  · obtain ⟨p, vs, rfl, t1, r1⟩ := h1
    obtain ⟨p', vs', rfl, t2, r2⟩ := h2
    split at e
    · rename_i hz; cases e
      have l1 := r1.length
      have l2 := r2.length
      cases rx; cases ry
      exact list_plus I t1 t2 (by rw [← line_eq]; omega) fun p hn => q.lst R (r1.append r2) p hn
    · cases e
  · obtain rfl := h1; obtain rfl := h2; cases e
    exact op_sub pins s σ W.H _ _ v u Q I rx ry ⟨_, _, rfl, rfl, q.here R (.int _)⟩
  · obtain rfl := h1; obtain rfl := h2
    split at e
    · rename_i hz; cases e
      obtain ⟨t, rfl⟩ := rx
      obtain ⟨t', rfl⟩ := ry
      exact mul_int ⟨.int _, W.H, I.tok _, ⟨_, rfl⟩, q.here R (.int _)⟩ (mulOk_ok hz)
    · cases e
  · obtain ⟨p, vs, rfl, t1, r1⟩ := h1; obtain rfl := h2
    split at e
    · rename_i hz; cases e
      obtain ⟨z1, z4⟩ := hz
      have l1 := r1.length
      cases rx
      obtain ⟨t', rfl⟩ := ry
      rename_i xs0 k0 
      by_cases hs : xs0 = [] ∨ k0 = 1
      · have er : rep xs0 k0 = xs0 := by
          rcases hs with hs | hs <;> subst hs <;> simp [rep]
        rw [er] at q
        exact tup_times1 I t1.sq (by
          rcases hs with hs | hs
          · subst hs; exact .inl (List.eq_nil_of_length_eq_zero l1.symm)
          · exact .inr hs) (by omega) (by omega) (q.here R (.tup t1 r1))
      · have hn : xs0 ≠ [] := fun e => hs (.inl e)
        have hk : k0 ≠ 1 := fun e => hs (.inr e)
        by_cases h0 : k0 ≤ 0
        · have er : rep xs0 k0 = [] := by unfold rep; rw [Int.toNat_of_nonpos h0]; rfl
          rw [er] at q
          exact tup_times0 I t1.sq (fun e => by subst e; exact hn (List.eq_nil_of_length_eq_zero l1)) h0 (by omega) fun p hn => q.tup R .nil p hn
        · exact tup_times I t1.sq (fun e => by subst e; exact hn (List.eq_nil_of_length_eq_zero l1)) (by omega) (by omega) (by rw [← l1, ← line_eq]; exact z4) fun p hn => q.tup R (r1.rep _) p hn
    · cases e
  · obtain ⟨p, vs, rfl, t1, r1⟩ := h1; obtain rfl := h2
    split at e
    · rename_i hz; cases e
      obtain ⟨z1, z4⟩ := hz
      have l1 := r1.length
      cases rx
      obtain ⟨t', rfl⟩ := ry
      exact list_times I t1 (by omega) (by omega) (by rw [← l1, ← line_eq]; exact z4) fun p hn => q.lst R (r1.rep _) p hn
    · cases e
  · obtain rfl := h1; obtain rfl := h2
    split at e
    · rename_i z k hz; cases e
      obtain ⟨z1, z4⟩ := hz
      obtain ⟨t, rfl⟩ := rx
      obtain ⟨t', rfl⟩ := ry
      rw [line_eq, sizeLine_eq] at z4
      refine SB.mul ⟨by simp; omega, fun hk _ => ?_, fun hk _ => ?_⟩ fun t' k' => ⟨.str _, W.H, I.tok _, ⟨_, by rw [txt_times]⟩, q.here R (.str _)⟩
      · have hk : 1 ≤ k := by omega
        have a1 : (z.length : Int) * k ≤ 16777216 := by
          have e : ((z.length * k.toNat : Nat) : Int) = (z.length : Int) * k := by rw [Int.natCast_mul, Int.toNat_of_nonneg (by omega)]
          omega
        have a2 : (z.length : Int) ≤ (2 ^ 63 - 1) / k := by
          rw [Int.le_ediv_iff_mul_le (by omega)]
          omega
        omega
      · unfold Builtin.Str.tooLong
        rw [sizeLine_eq]
        simp; omega
    · cases e
  · obtain rfl := h1; obtain rfl := h2
    split at e
    · rename_i hz; cases e
      unfold divOk at hz
      simp only [Bool.and_eq_true, Bool.or_eq_true, decide_eq_true_eq] at hz
      obtain ⟨z1, z2 | z2⟩ := hz
      · exact op_fdiv pins s σ W.H _ _ v u Q I rx ry ⟨_, _, rfl, rfl, ⟨z1, z2⟩, q.here R (.int _)⟩
      · exact op_fdivW pins s σ W.H _ _ v u Q I rx ry ⟨_, _, rfl, rfl, ⟨z1, z2⟩, q.here R (.int _)⟩
    · cases e
  · obtain rfl := h1; obtain rfl := h2
    split at e
    · rename_i hz; cases e
      exact op_mod pins s σ W.H _ _ v u Q I rx ry ⟨_, _, rfl, rfl, hz, q.here R (.int _)⟩
    · cases e
  · obtain rfl := h1; obtain rfl := h2
    split at e
    · rename_i hz; cases e
      unfold powOk at hz
      simp only [Bool.and_eq_true, decide_eq_true_eq] at hz
      exact op_pow pins s σ W.H _ _ v u Q I rx ry ⟨_, _, rfl, rfl, ⟨hz.1.1, by have := hz.1.2; omega, hz.2⟩, q.here R (.int _)⟩
    · cases e
  · cases e
end
end Ly
/-! Ly: dicts in the heap. -/
namespace Ly
open PySem PySem.Spec PyProof.Rows L2 PySem.SeqAt

/-! ### keys -/
mutual
theorem nk_inj : ∀ a b : D, a.kd = true → b.kd = true → nk a = nk b → a = b
  | .int i, b, _, hb, h => by cases b <;> first | (cases hb; done) | (simp [nk] at h; done) | (simp [nk] at h; rw [h])
  | .str i, b, _, hb, h => by cases b <;> first | (cases hb; done) | (simp [nk] at h; done) | (simp [nk] at h; rw [h])
  | .non, b, _, hb, h => by cases b <;> first | (cases hb; done) | rfl | (simp [nk] at h)
  | .tup xs, b, ha, hb, h => by
    cases b <;> first | (cases hb; done) | skip
    · simp [nk] at h
    · simp [nk] at h
    · simp [nk] at h
    · rename_i ys
      rw [nk, nk] at h
      rw [nks_inj xs ys ha hb (NestedKey.tup.inj h)]
  | .bl _, _, ha, _, _ => by cases ha
  | .lst _, _, ha, _, _ => by cases ha
  | .dct _, _, ha, _, _ => by cases ha
  | .set _, _, ha, _, _ => by cases ha
  | .ref _, _, ha, _, _ => by cases ha
  | .fn _, _, ha, _, _ => by cases ha
  | .ty _, _, ha, _, _ => by cases ha
theorem nks_inj : ∀ a b : List D, D.kds a = true → D.kds b = true → nks a = nks b → a = b
  | [], [], _, _, _ => rfl
  | [], _ :: _, _, _, h => by cases h
  | _ :: _, [], _, _, h => by cases h
  | x :: xs, y :: ys, ha, hb, h => by
    rw [D.kds, Bool.and_eq_true] at ha hb
    rw [nks, nks] at h
    injection h with h1 h2
    rw [nk_inj x y ha.1 hb.1 h1, nks_inj xs ys ha.2 hb.2 h2]
end
mutual
theorem nk_depth : ∀ a : D, a.kd = true → (nk a).depth = a.depth
  | .int _, _ => rfl
  | .str _, _ => rfl
  | .non, _ => rfl
  | .tup xs, h => by rw [nk, NestedKey.depth, D.depth, nks_depth xs h]
  | .bl _, h => by cases h
  | .lst _, h => by cases h
  | .dct _, h => by cases h
  | .set _, h => by cases h
  | .ref _, h => by cases h
  | .fn _, h => by cases h
  | .ty _, h => by cases h
theorem nks_depth : ∀ a : List D, D.kds a = true → NestedKey.depthAll (nks a) = D.depths a
  | [], _ => rfl
  | x :: xs, h => by
    rw [D.kds, Bool.and_eq_true] at h
    rw [nks, NestedKey.depthAll, D.depths, nk_depth x h.1, nks_depth xs h.2]
end
/-- a key of ints and texts -/
def kS : D → L2.Key
  | .int i => .inl i
  | .str s => .inr s
  | _ => .inl 0
theorem kS_inj {a b : D} (ha : a.isSc = true) (hb : b.isSc = true) (h : kS a = kS b) : a = b := by
  cases a <;> first | (cases ha; done) | skip
  all_goals (cases b <;> first | (cases hb; done) | skip)
  · injection h with h; rw [h]
  · cases h
  · cases h
  · injection h with h; rw [h]
theorem sc_of {a : D} (h : a.isKey = true) (n : a.isSc = false) : ∃ xs, a = .tup xs ∧ D.kds xs = true ∧ D.depths xs < 8 := by
  cases a <;> first | (cases h; done) | (cases n; done) | skip
  simp only [D.isKey, Bool.and_eq_true, decide_eq_true_eq] at h
  exact ⟨_, rfl, h.1, h.2⟩
theorem key_kd {a : D} (h : a.isKey = true) : a.kd = true := by
  cases a <;> first | rfl | (cases h; done) | skip
  simp only [D.isKey, Bool.and_eq_true, decide_eq_true_eq] at h
  exact h.1
theorem sort_of {k : D} {kvs : List (D × D)} (o : DOk kvs) (h : kOk k kvs = true) : k.isKey = true ∧ ∀ p ∈ kvs, p.1.isSc = k.isSc := by
  cases kvs with
  | nil => exact ⟨h, fun p hp => by cases hp⟩
  | cons p r =>
    have h : (k.isKey && (k.isSc == p.1.isSc)) = true := h
    rw [Bool.and_eq_true] at h
    have e : k.isSc = p.1.isSc := by simpa using h.2
    refine ⟨h.1, fun q hq => ?_⟩
    rcases List.mem_cons.mp hq with rfl | hq
    · exact e.symm
    · have := List.all_eq_true.mp (show r.all (fun q => q.1.isSc == p.1.isSc) = true from o.sort) q hq
      rw [e]
      simpa using this
/-! ### put, look -/
theorem look_none {k : D} : ∀ {kvs : List (D × D)}, look k kvs = none → k ∉ kvs.map (·.1)
  | [], _, h => by cases h
  | (l, v) :: r, e, h => by
    rw [look] at e
    split at e
    · cases e
    · rename_i n
      rcases List.mem_cons.mp h with q | q
      · exact n q.symm
      · exact look_none e q
theorem put_new {k v : D} : ∀ {kvs : List (D × D)}, look k kvs = none → put k v kvs = kvs ++ [(k, v)]
  | [], _ => rfl
  | (l, w) :: r, e => by
    rw [look] at e
    split at e
    · cases e
    · rename_i n
      rw [put, if_neg n, put_new e]; rfl
theorem put_keys {k v x : D} : ∀ {kvs : List (D × D)}, look k kvs = some x → (put k v kvs).map (·.1) = kvs.map (·.1)
  | [], e => by cases e
  | (l, w) :: r, e => by
    rw [look] at e
    rw [put]
    split at e
    · rename_i h; rw [if_pos h]; rfl
    · rename_i n
      rw [if_neg n, List.map_cons, put_keys e]; rfl
theorem put_mem {k v : D} : ∀ {kvs : List (D × D)} {p : D × D}, p ∈ put k v kvs → p.1 = k ∨ ∃ q ∈ kvs, q.1 = p.1
  | [], p, h => by rcases List.mem_cons.mp h with rfl | h; exact .inl rfl; cases h
  | (l, w) :: r, p, h => by
    rw [put] at h
    split at h
    · rename_i e
      rcases List.mem_cons.mp h with rfl | h
      · exact .inl e
      · exact .inr ⟨p, List.mem_cons_of_mem _ h, rfl⟩
    · rcases List.mem_cons.mp h with rfl | h
      · exact .inr ⟨_, List.mem_cons_self, rfl⟩
      · rcases put_mem h with e | ⟨q, hq, e⟩
        · exact .inl e
        · exact .inr ⟨q, List.mem_cons_of_mem _ hq, e⟩
theorem put_len {k v : D} {kvs : List (D × D)} : (put k v kvs).length ≤ kvs.length + 1 := by
  cases e : look k kvs with
  | none => rw [put_new e]; simp
  | some x =>
    have := congrArg List.length (put_keys (v := v) e)
    simp at this
    omega
theorem oneSort_of {kvs : List (D × D)} {b : Bool} (h : ∀ p ∈ kvs, p.1.isSc = b) : oneSort kvs = true := by
  cases kvs with
  | nil => rfl
  | cons p r =>
    show r.all _ = true
    rw [List.all_eq_true]
    intro q hq
    rw [h p List.mem_cons_self, h q (List.mem_cons_of_mem _ hq)]
    simp
theorem DOk.put {kvs : List (D × D)} {k v : D} (o : DOk kvs) (h : kOk k kvs = true) (hl : kvs.length < sizeLine) : DOk (put k v kvs) := by
  obtain ⟨hk, hs⟩ := sort_of o h
  have hm : ∀ p ∈ Ly.put k v kvs, p.1.isKey = true ∧ p.1.isSc = k.isSc := fun p hp => by
    rcases put_mem hp with e | ⟨q, hq, e⟩
    · rw [e]; exact ⟨hk, rfl⟩
    · rw [← e]; exact ⟨o.key q hq, hs q hq⟩
  refine ⟨?_, ?_, fun p hp => (hm p hp).1, oneSort_of fun p hp => (hm p hp).2⟩
  · cases e : look k kvs with
    | none =>
      rw [put_new e, List.map_append]
      exact List.nodup_append.mpr ⟨o.nd, by simp, fun a ha b hb => by simp at hb; rw [hb]; exact fun q => look_none e (q ▸ ha)⟩
    | some x => rw [put_keys e]; exact o.nd
  · have := put_len (k := k) (v := v) (kvs := kvs)
    omega
theorem DOk.nil : DOk [] := ⟨List.nodup_nil, Nat.zero_le _, (fun p h => by cases h), rfl⟩

section
variable {K : PySem.W.Frag} {mg : MG} {W : Wd} {kvs : List (D × D)} {es : List DictEntry}
theorem Ents.length : ∀ {kvs : List (D × D)} {es : List DictEntry}, Ents K mg W kvs es → kvs.length = es.length
  | _, _, .nil => rfl
  | _, _, .cons _ _ _ _ _ r => by rw [List.length_cons, List.length_cons, Ents.length r]
/-! ### keys that are ints and texts -/
abbrev RelS (K : PySem.W.Frag) (mg : MG) (W : Wd) (p : D × D) (q : L2.Key × Value) : Prop := q.1 = kS p.1 ∧ ∃ b, RepD K mg W p.2 b ∧ RelV b q.2
theorem scalar_is {k : D} {a : V} {u : Value} (hs : k.isSc = true) (h : RepD K mg W k a) (r : RelV a u) : L2.keyIs (kS k) u = true := by
  cases k <;> first | (cases hs; done) | skip
  · rw [h.int_inv] at r; obtain ⟨t, rfl⟩ := r; exact L2.keyIs_int _ _
  · rw [h.str_inv] at r; obtain ⟨t, rfl⟩ := r; exact L2.keyIs_str _ _
theorem scalar_at {k : D} {a : V} {u : Value} (hs : k.isSc = true) (h : At K mg W k a) (r : RelV a u) : L2.keyIs (kS k) u = true := by
  cases k <;> first | (cases hs; done) | skip
  · obtain rfl := h; obtain ⟨t, rfl⟩ := r; exact L2.keyIs_int _ _
  · obtain rfl := h; obtain ⟨t, rfl⟩ := r; exact L2.keyIs_str _ _
theorem hash_sc {w : World} {k : D} (hs : k.isSc = true) : hashD w k = L2.keyH w (kS k) := by cases k <;> first | rfl | cases hs
theorem Ents.sc {prog : Program} : ∀ {kvs : List (D × D)} {es : List DictEntry}, Ents K mg W kvs es → (∀ p ∈ kvs, p.1.isSc = true) →
    ∃ vs, (∀ e ∈ es, ∃ k, (mixKind prog mg.w).is k e.key = true ∧ e.hash = (mixKind prog mg.w).hash k) ∧ Pairs (mixKind prog mg.w) es vs ∧ Paired (RelS K mg W) kvs vs
  | _, _, .nil, _ => ⟨[], (fun e h => by cases h), .nil, .nil⟩
  | _, _, .cons (k := k) (e := e) h1 h2 h3 h4 h5 r, hs => by
    obtain ⟨vs, k1, k2, k3⟩ := Ents.sc (prog := prog) r fun p hp => hs p (List.mem_cons_of_mem _ hp)
    have hk := hs _ List.mem_cons_self
    have his := scalar_is hk h1 h2
    refine ⟨(kS k, e.val) :: vs, fun e' he => ?_, .cons his rfl k2, .cons ⟨rfl, _, h3, h4⟩ k3⟩
    rcases List.mem_cons.mp he with rfl | he
    · exact ⟨kS k, his, by rw [h5]; exact hash_sc hk⟩
    · exact k1 e' he
theorem rep_key {k : D} {u : Value} (hs : k.isSc = true) (h : L2.keyIs (kS k) u = true) : ∃ a, RepD K mg W k a ∧ RelV a u := by
  cases k <;> first | (cases hs; done) | skip
  · rcases L2.keyIs_shape h with ⟨i, t, e, rfl⟩ | ⟨x, t, e, rfl⟩
    · cases e; exact ⟨_, .int _, t, rfl⟩
    · cases e
  · rcases L2.keyIs_shape h with ⟨i, t, e, rfl⟩ | ⟨x, t, e, rfl⟩
    · cases e
    · cases e; exact ⟨_, .str _, t, rfl⟩
theorem Ents.of_sc {prog : Program} : ∀ {kvs : List (D × D)} {es : List DictEntry} {vs : List (L2.Key × Value)}, (∀ e ∈ es, ∃ k, (mixKind prog mg.w).is k e.key = true ∧ e.hash = (mixKind prog mg.w).hash k) → Pairs (mixKind prog mg.w) es vs → Paired (RelS K mg W) kvs vs →
    (∀ p ∈ kvs, p.1.isSc = true) → Ents K mg W kvs es
  | _, _, _, _, .nil, .nil, _ => .nil
  | _ :: _, _ :: _, _ :: _, hk, h0, .cons r t, hs => by
    obtain ⟨r1, b, r2, r3⟩ := r
    cases h0
    rename_i e _ _ _ i v p
    have h0 := hs _ List.mem_cons_self
    rw [r1] at i
    obtain ⟨a, a1, a2⟩ := rep_key (K := K) (mg := mg) (W := W) h0 i
    obtain ⟨k', i', e'⟩ := hk e List.mem_cons_self
    have : k' = kS _ := (mixKind prog mg.w).inj _ _ _ i' i
    exact .cons a1 a2 r2 (by rw [v]; exact r3) (by rw [e', this, hash_sc h0]; rfl) (Ents.of_sc (prog := prog) (fun e h => hk e (List.mem_cons_of_mem _ h)) p t fun p hp => hs p (List.mem_cons_of_mem _ hp))
theorem sc_look {k : D} (hk : k.isSc = true) : ∀ {kvs : List (D × D)} {vs : List (L2.Key × Value)}, Paired (RelS K mg W) kvs vs → (∀ p ∈ kvs, p.1.isSc = true) →
    (look k kvs = none ∧ valueAt vs (kS k) = none) ∨ ∃ x u b, look k kvs = some x ∧ valueAt vs (kS k) = some u ∧ RepD K mg W x b ∧ RelV b u
  | _, _, .nil, _ => .inl ⟨rfl, rfl⟩
  | (l, x) :: kvs, q :: vs, .cons r t, hs => by
    obtain ⟨r1, b, r2, r3⟩ := r
    have hl := hs _ List.mem_cons_self
    by_cases e : l = k
    · subst e
      exact .inr ⟨x, q.2, b, by rw [look, if_pos rfl], by simp [valueAt, r1], r2, r3⟩
    · have ne : ¬ q.1 = kS k := fun z => e (kS_inj hl hk (r1.symm.trans z))
      have e1 : valueAt (q :: vs) (kS k) = valueAt vs (kS k) := by simp [valueAt, List.find?_cons, ne]
      rw [look, if_neg e, e1]
      exact sc_look hk t fun p hp => hs p (List.mem_cons_of_mem _ hp)
theorem stored_cons {κ : Type} [DecidableEq κ] {q : κ × Value} {vs : List (κ × Value)} {k : κ} {u : Value} (h : q.1 ≠ k) : stored (q :: vs) k u = q :: stored vs k u := by
  unfold stored
  rw [List.any_cons, show decide (q.1 = k) = false by simpa using h, Bool.false_or]
  split
  · rw [List.map_cons, if_neg h]
  · rfl
theorem sc_put {k v : D} {b : V} {u : Value} (hk : k.isSc = true) (hb : RepD K mg W v b) (hr : RelV b u) : ∀ {kvs : List (D × D)} {vs : List (L2.Key × Value)}, Paired (RelS K mg W) kvs vs → (∀ p ∈ kvs, p.1.isSc = true) → (kvs.map (·.1)).Nodup →
    Paired (RelS K mg W) (Ly.put k v kvs) (stored vs (kS k) u)
  | _, _, .nil, _, _ => .cons ⟨rfl, b, hb, hr⟩ .nil
  | (l, x) :: kvs, q :: vs, .cons r t, hs, nd => by
    have hl := hs _ List.mem_cons_self
    have hs' : ∀ p ∈ kvs, p.1.isSc = true := fun p hp => hs p (List.mem_cons_of_mem _ hp)
    by_cases e : l = k
    · subst e
      rw [Ly.put, if_pos rfl]
      have hn : kS l ∉ vs.map (·.1) := fun z => by
        have : ∀ {kvs : List (D × D)} {vs : List (L2.Key × Value)}, Paired (RelS K mg W) kvs vs → (∀ p ∈ kvs, p.1.isSc = true) → kS l ∈ vs.map (·.1) → l ∈ kvs.map (·.1) := by
          intro kvs vs r
          induction r with
          | nil => intro _ h; cases h
          | cons r t ih =>
            intro hs h
            rw [List.map_cons] at h ⊢
            rcases List.mem_cons.mp h with h | h
            · rw [r.1] at h
              have e : l = _ := kS_inj hl (hs _ List.mem_cons_self) h
              rw [e]
              exact List.mem_cons_self
            · exact List.mem_cons_of_mem _ (ih (fun p hp => hs p (List.mem_cons_of_mem _ hp)) h)
        exact (List.nodup_cons.mp nd).1 (this t hs' z)
      have e1 : stored (q :: vs) (kS l) u = (kS l, u) :: vs := by
        unfold stored
        rw [List.any_cons, show decide (q.1 = kS l) = true by simpa using r.1, Bool.true_or, if_pos rfl, List.map_cons, if_pos r.1, map_store_of_not_mem _ _ _ hn, r.1]
      rw [e1]
      exact .cons ⟨rfl, b, hb, hr⟩ t
    · have ne : q.1 ≠ kS k := fun z => e (kS_inj hl hk (r.1.symm.trans z))
      rw [Ly.put, if_neg e, stored_cons ne]
      exact .cons r (sc_put hk hb hr t hs' (List.nodup_cons.mp nd).2)
/-! ### keys that are tuples -/
abbrev RelT (K : PySem.W.Frag) (mg : MG) (W : Wd) (p : D × D) (q : NestedKey × Addr × Value) : Prop := q.1 = nk p.1 ∧ RepD K mg W p.1 (.ref q.2.1) ∧ ∃ b, RepD K mg W p.2 b ∧ RelV b q.2.2
theorem hash_tp {w : World} {k : D} (h : k.isSc = false) (hk : k.isKey = true) : hashD w k = (nk k).hash w := by
  obtain ⟨xs, rfl, _⟩ := sc_of hk h
  rfl
theorem tup_ref {xs : List D} {a : V} (h : RepD K mg W (.tup xs) a) : ∃ p, a = .ref p := by cases h; exact ⟨_, rfl⟩
theorem Ents.tp {prog : Program} : ∀ {kvs : List (D × D)} {es : List DictEntry}, Ents K mg W kvs es → (∀ p ∈ kvs, p.1.isSc = false ∧ p.1.isKey = true) → ∃ xs, es = xs.map (entryOfKey (nestedKind prog mg.w)) ∧ Paired (RelT K mg W) kvs xs
  | _, _, .nil, _ => ⟨[], rfl, .nil⟩
  | _, _, .cons (k := k) (e := e) h1 h2 h3 h4 h5 r, hs => by
    obtain ⟨xs, k1, k2⟩ := Ents.tp (prog := prog) r fun p hp => hs p (List.mem_cons_of_mem _ hp)
    obtain ⟨s1, s2⟩ := hs _ List.mem_cons_self
    obtain ⟨ys, rfl, _⟩ := sc_of s2 s1
    obtain ⟨p, rfl⟩ := tup_ref h1
    have h2 : e.key = .ref p := h2
    refine ⟨(nk (.tup ys), p, e.val) :: xs, ?_, .cons ⟨rfl, h1, _, h3, h4⟩ k2⟩
    rw [List.map_cons, ← k1]
    obtain ⟨eh, ek, ev⟩ := e
    dsimp only at h2 h5
    rw [h2, h5]
    rfl
theorem Ents.of_tp {prog : Program} : ∀ {kvs : List (D × D)} {xs : List (NestedKey × Addr × Value)}, Paired (RelT K mg W) kvs xs → (∀ p ∈ kvs, p.1.isSc = false ∧ p.1.isKey = true) → Ents K mg W kvs (xs.map (entryOfKey (nestedKind prog mg.w)))
  | _, _, .nil, _ => .nil
  | _ :: _, _ :: _, .cons r t, hs => by
    obtain ⟨r1, r2, b, r3, r4⟩ := r
    obtain ⟨s1, s2⟩ := hs _ List.mem_cons_self
    rw [List.map_cons]
    exact .cons r2 rfl r3 r4 (by rw [hash_tp s1 s2, ← r1]; rfl) (Ents.of_tp (prog := prog) t fun p hp => hs p (List.mem_cons_of_mem _ hp))
theorem tp_look {k : D} (hk : k.kd = true) : ∀ {kvs : List (D × D)} {xs : List (NestedKey × Addr × Value)}, Paired (RelT K mg W) kvs xs → (∀ p ∈ kvs, p.1.kd = true) →
    (look k kvs = none ∧ atKey xs (nk k) = none) ∨ ∃ x p b, look k kvs = some x ∧ atKey xs (nk k) = some p ∧ RepD K mg W x b ∧ RelV b p.2
  | _, _, .nil, _ => .inl ⟨rfl, rfl⟩
  | (l, x) :: kvs, q :: xs, .cons r t, hs => by
    obtain ⟨r1, r2, b, r3, r4⟩ := r
    have hl := hs _ List.mem_cons_self
    by_cases e : l = k
    · subst e
      exact .inr ⟨x, q.2, b, by rw [look, if_pos rfl], by simp [atKey, r1], r3, r4⟩
    · have ne : ¬ q.1 = nk k := fun z => e (nk_inj _ _ hl hk (r1.symm.trans z))
      have e1 : atKey (q :: xs) (nk k) = atKey xs (nk k) := by simp [atKey, List.find?_cons, ne]
      rw [look, if_neg e, e1]
      exact tp_look hk t fun p hp => hs p (List.mem_cons_of_mem _ hp)
theorem storedH_cons {κ : Type} [DecidableEq κ] {q : κ × Addr × Value} {xs : List (κ × Addr × Value)} {k : κ} {a : Addr} {u : Value} (h : q.1 ≠ k) : storedH (q :: xs) k a u = q :: storedH xs k a u := by
  have e : atKey (q :: xs) k = atKey xs k := by simp [atKey, List.find?_cons, h]
  unfold storedH
  rw [e]
  split
  · rw [List.map_cons, putAt, if_neg h]
  · rfl
theorem tp_put {k v : D} {a : Addr} {b : V} {u : Value} (hk : k.kd = true) (hka : RepD K mg W k (.ref a)) (hb : RepD K mg W v b) (hr : RelV b u) : ∀ {kvs : List (D × D)} {xs : List (NestedKey × Addr × Value)}, Paired (RelT K mg W) kvs xs →
    (∀ p ∈ kvs, p.1.kd = true) → (kvs.map (·.1)).Nodup → Paired (RelT K mg W) (Ly.put k v kvs) (storedH xs (nk k) a u)
  | _, _, .nil, _, _ => .cons ⟨rfl, hka, b, hb, hr⟩ .nil
  | (l, x) :: kvs, q :: xs, .cons r t, hs, nd => by
    have hl := hs _ List.mem_cons_self
    have hs' : ∀ p ∈ kvs, p.1.kd = true := fun p hp => hs p (List.mem_cons_of_mem _ hp)
    by_cases e : l = k
    · subst e
      rw [Ly.put, if_pos rfl]
      have hn : nk l ∉ xs.map (·.1) := fun z => by
        have : ∀ {kvs : List (D × D)} {xs : List (NestedKey × Addr × Value)}, Paired (RelT K mg W) kvs xs → (∀ p ∈ kvs, p.1.kd = true) → nk l ∈ xs.map (·.1) → l ∈ kvs.map (·.1) := by
          intro kvs xs r
          induction r with
          | nil => intro _ h; cases h
          | cons r t ih =>
            intro hs h
            rw [List.map_cons] at h ⊢
            rcases List.mem_cons.mp h with h | h
            · rw [r.1] at h
              have e : l = _ := nk_inj _ _ hl (hs _ List.mem_cons_self) h
              rw [e]
              exact List.mem_cons_self
            · exact List.mem_cons_of_mem _ (ih (fun p hp => hs p (List.mem_cons_of_mem _ hp)) h)
        exact (List.nodup_cons.mp nd).1 (this t hs' z)
      have e1 : storedH (q :: xs) (nk l) a u = (q.1, q.2.1, u) :: xs := by
        unfold storedH
        rw [if_pos (by simp [atKey, r.1]), List.map_cons, map_putAt_of_not_mem _ _ _ hn, putAt, if_pos r.1]
      rw [e1]
      exact .cons ⟨r.1, r.2.1, b, hb, hr⟩ t
    · have ne : q.1 ≠ nk k := fun z => e (nk_inj _ _ hl hk (r.1.symm.trans z))
      rw [Ly.put, if_neg e, storedH_cons ne]
      exact .cons r (tp_put hk hka hb hr t hs' (List.nodup_cons.mp nd).2)
end

theorem nodup_map_on {α β : Type} {f : α → β} : ∀ {l : List α}, (∀ x ∈ l, ∀ y ∈ l, f x = f y → x = y) → l.Nodup → (l.map f).Nodup
  | [], _, _ => List.nodup_nil
  | x :: l, h, n => by
    rw [List.map_cons, List.nodup_cons]
    refine ⟨fun z => ?_, nodup_map_on (fun a ha b hb => h a (List.mem_cons_of_mem _ ha) b (List.mem_cons_of_mem _ hb)) (List.nodup_cons.mp n).2⟩
    obtain ⟨y, hy, e⟩ := List.mem_map.mp z
    exact (List.nodup_cons.mp n).1 (by rw [h x List.mem_cons_self y (List.mem_cons_of_mem _ hy) e.symm]; exact hy)
/-! ### in the heap -/
section
variable {X : Cx} {pins : List (Addr × Obj)} {σ : L2.St} {s : Shared} {mg : MG} {W : Wd}
mutual
theorem nested_of (I : Inv X pins σ W.H s) : ∀ {d : D} {v : V} {u : Value}, RepD X.K mg W d v → d.kd = true → RelV v u → NestedIs s.heap (nk d) u
  | .int i, v, u, h, _, r => by rw [h.int_inv] at r; obtain ⟨t, rfl⟩ := r; exact .int _ _
  | .str i, v, u, h, _, r => by rw [h.str_inv] at r; obtain ⟨t, rfl⟩ := r; exact .text _ _
  | .non, v, u, h, _, r => by rw [h.non_inv] at r; cases (show u = .none from r); exact .none
  | .tup xs, v, u, h, hk, r => by
    cases h with
    | tup t q =>
      cases (show u = .ref _ from r)
      obtain ⟨its, rv, ⟨o, ho, hc, n, hd⟩, _⟩ := I.tuple t.sq
      exact .tup ho hc hd (by simpa using nesteds_of I q hk rv)
  | .bl _, _, _, _, h, _ => by cases h
  | .lst _, _, _, _, h, _ => by cases h
  | .dct _, _, _, _, h, _ => by cases h
  | .set _, _, _, _, h, _ => by cases h
  | .ref _, _, _, _, h, _ => by cases h
  | .fn _, _, _, _, h, _ => by cases h
  | .ty _, _, _, _, h, _ => by cases h
theorem nesteds_of (I : Inv X pins σ W.H s) : ∀ {d : List D} {v : List V} {u : List Value}, RepDs X.K mg W d v → D.kds d = true → Vals v u → NestedAll s.heap (nks d) u
  | [], _, _, h, _, r => by cases h; cases r; exact .nil
  | x :: xs, _, _, h, hk, r => by
    cases h with
    | cons h1 h2 =>
      cases r with
      | cons r1 r2 =>
        rw [D.kds, Bool.and_eq_true] at hk
        exact .cons (nested_of I h1 hk.1 r1) (nesteds_of I h2 hk.2 r2)
end
theorem key_is {prog : Program} {w : World} (I : Inv X pins σ W.H s) {k : D} {a : Addr} (hs : k.isSc = false) (hk : k.isKey = true) (h : RepD X.K mg W k (.ref a)) : (nestedKind prog w).is s.heap (nk k) a := by
  refine ⟨nested_of I h (key_kd hk) rfl, ?_⟩
  rw [nk_depth k (key_kd hk)]
  obtain ⟨xs, rfl, _, hd⟩ := sc_of hk hs
  rw [D.depth]
  omega
theorem nested_room {prog : Program} {w : World} {A : Around} (hu : A.units + 64 < cLine) : (nestedKind prog w).room A.in1 := by
  show A.units + 1 + 8 < cLine
  omega
theorem nested_room2 {prog : Program} {w : World} {A : Around} (hu : A.units + 64 < cLine) : (nestedKind prog w).room A.in1.in1 := by
  show A.units + 1 + 1 + 8 < cLine
  omega
theorem dict_raw {a : Addr} {es : List DictEntry} {ep : Nat} (I : Inv X pins σ W.H s) (h : Rd W.H a (DictO a es ep)) : (a == sysModules) = false ∧ ∃ o, s.heap.get? a = some o ∧ o.ExactDict ∧ o.data = .dict es.toArray ep := by
  obtain ⟨h, _⟩ := (show ObjOk X.prog X.w W.H s.heap a (DictO a es ep) from h.ok I.hok)
  exact h
theorem dictO_ok {P : Program} {w : World} {H : Hp} {h : Heap} {a : Addr} {es : List DictEntry} {ep : Nat} {o : Obj} (hd : (a == sysModules) = false) (h1 : h.get? a = some o) (h2 : o.ExactDict) (h3 : o.data = .dict es.toArray ep) : ObjOk P w H h a (DictO a es ep) :=
  ⟨⟨hd, o, h1, h2, h3⟩, ⟨o, h1⟩, fun _ _ ⟨e, o, k1, k2, k3⟩ k => ⟨e, o, k o k1, k2, k3⟩⟩
/-- a dict of ints and texts -/
theorem dict_sc {a : Addr} {es : List DictEntry} {ep : Nat} {kvs : List (D × D)} (hw : mg.w = X.w) (I : Inv X pins σ W.H s) (h : Rd W.H a (DictO a es ep)) (E : Ents X.K mg W kvs es) (o : DOk kvs) (hs : ∀ p ∈ kvs, p.1.isSc = true) :
    ∃ vs, s.heap.DictOf (mixKind X.prog X.w) a vs ∧ Paired (RelS X.K mg W) kvs vs := by
  obtain ⟨_, ob, h1, h2, h3⟩ := dict_raw I h
  obtain ⟨vs, k1, k2, k3⟩ := E.sc (prog := X.prog) hs
  rw [hw] at k1 k2
  refine ⟨vs, ⟨ob, es.toArray, ep, h1, h2, h3, fun e he => k1 e (by simpa using he), by simpa using k2, ?_⟩, k3⟩
  have : vs.map (·.1) = (kvs.map (·.1)).map kS := by
    clear k1 k2 E o hs h3
    induction k3 with
    | nil => rfl
    | cons r t ih => rw [List.map_cons, List.map_cons, List.map_cons, ih, r.1]
  rw [this]
  refine nodup_map_on ?_ o.nd
  intro x hx y hy e
  obtain ⟨p, hp, rfl⟩ := List.mem_map.mp hx
  obtain ⟨q, hq, rfl⟩ := List.mem_map.mp hy
  exact kS_inj (hs p hp) (hs q hq) e
/-- a dict of tuples -/
theorem dict_tp {a : Addr} {es : List DictEntry} {ep : Nat} {kvs : List (D × D)} (hw : mg.w = X.w) (I : Inv X pins σ W.H s) (h : Rd W.H a (DictO a es ep)) (E : Ents X.K mg W kvs es) (o : DOk kvs) (hs : ∀ p ∈ kvs, p.1.isSc = false) :
    ∃ xs, s.heap.DictOfH (nestedKind X.prog X.w) a xs ∧ Paired (RelT X.K mg W) kvs xs := by
  obtain ⟨_, ob, h1, h2, h3⟩ := dict_raw I h
  have hs2 : ∀ p ∈ kvs, p.1.isSc = false ∧ p.1.isKey = true := fun p hp => ⟨hs p hp, o.key p hp⟩
  obtain ⟨xs, k1, k3⟩ := E.tp (prog := X.prog) hs2
  rw [hw] at k1
  have e1 : xs.map (·.1) = (kvs.map (·.1)).map nk := by
    clear k1 E o hs hs2 h3
    induction k3 with
    | nil => rfl
    | cons r t ih => rw [List.map_cons, List.map_cons, List.map_cons, ih, r.1]
  have all : ∀ {kvs : List (D × D)} {xs : List (NestedKey × Addr × Value)}, Paired (RelT X.K mg W) kvs xs → (∀ p ∈ kvs, p.1.isSc = false ∧ p.1.isKey = true) → ∀ x ∈ xs, (nestedKind X.prog X.w).is s.heap x.1 x.2.1 := by
    intro kvs xs r
    induction r with
    | nil => intro _ x hx; cases hx
    | cons r t ih =>
      intro hs x hx
      rcases List.mem_cons.mp hx with rfl | hx
      · obtain ⟨s1, s2⟩ := hs _ List.mem_cons_self
        rw [r.1]
        exact key_is I s1 s2 r.2.1
      · exact ih (fun p hp => hs p (List.mem_cons_of_mem _ hp)) x hx
  refine ⟨xs, ⟨ob, es.toArray, ep, h1, h2, h3, by simpa using k1, all k3 hs2, ?_⟩, k3⟩
  rw [e1]
  refine nodup_map_on ?_ o.nd
  intro x hx y hy e
  obtain ⟨p, hp, rfl⟩ := List.mem_map.mp hx
  obtain ⟨q, hq, rfl⟩ := List.mem_map.mp hy
  exact nk_inj _ _ (key_kd (o.key p hp)) (key_kd (o.key q hq)) e
end

/-! ### what is asked of a dict -/
/-- a dict at an address, to be read -/
def DV (K : PySem.W.Frag) (mg : MG) (W : Wd) (a : Addr) (kvs : List (D × D)) : Prop := ∃ es ep, Rd W.H a (DictO a es ep) ∧ Ents K mg W kvs es ∧ DOk kvs
section
variable {X : Cx} {pins : List (Addr × Obj)} {σ : L2.St} {s : Shared} {mg : MG} {W : Wd} {A : Around} {E : Value → Shared → Prop} {a : Addr} {kvs : List (D × D)} {k x : D} {y : V} {u : Value}
theorem at_rep (hk : k.isKey = true) (h : At X.K mg W k y) : RepD X.K mg W k y := by
  cases k <;> first | (cases hk; done) | skip
  · rw [show y = .int _ from h]; exact .int _
  · rw [show y = .str _ from h]; exact .str _
  · obtain ⟨a, vs, rfl, t, r⟩ := h; exact .tup t r
theorem DV.typeIs (I : Inv X pins σ W.H s) (d : DV X.K mg W a kvs) : s.TypeIs (.ref a) "dict" := by
  obtain ⟨es, ep, h, _⟩ := d
  obtain ⟨_, o, h1, h2, _⟩ := dict_raw I h
  exact ⟨o, h1, h2.1⟩
theorem DV.lo (I : Inv X pins σ W.H s) (d : DV X.K mg W a kvs) : (a == sysModules) = false := by
  obtain ⟨es, ep, h, _⟩ := d
  exact (dict_raw I h).1
theorem DV.len (d : DV X.K mg W a kvs) : kvs.length ≤ sizeLine := by
  obtain ⟨_, _, _, _, o⟩ := d
  exact o.len
theorem DV.sc (hw : mg.w = X.w) (I : Inv X pins σ W.H s) (d : DV X.K mg W a kvs) (hs : ∀ p ∈ kvs, p.1.isSc = true) : ∃ vs, s.heap.DictOf (mixKind X.prog X.w) a vs ∧ Paired (RelS X.K mg W) kvs vs := by
  obtain ⟨es, ep, h, e, o⟩ := d
  exact dict_sc hw I h e o hs
theorem DV.tp (hw : mg.w = X.w) (I : Inv X pins σ W.H s) (d : DV X.K mg W a kvs) (hs : ∀ p ∈ kvs, p.1.isSc = false) : ∃ xs, s.heap.DictOfH (nestedKind X.prog X.w) a xs ∧ Paired (RelT X.K mg W) kvs xs := by
  obtain ⟨es, ep, h, e, o⟩ := d
  exact dict_tp hw I h e o hs
theorem DV.sort (d : DV X.K mg W a kvs) (h : kOk k kvs = true) : k.isKey = true ∧ ∀ p ∈ kvs, p.1.isSc = k.isSc := by
  obtain ⟨_, _, _, _, o⟩ := d
  exact sort_of o h
theorem DV.kd (d : DV X.K mg W a kvs) : ∀ p ∈ kvs, p.1.kd = true := fun p hp => by
  obtain ⟨_, _, _, _, o⟩ := d
  exact key_kd (o.key p hp)
theorem tp_key (hk : k.isKey = true) (hs : k.isSc = false) (ry : RepD X.K mg W k y) (rv : RelV y u) : ∃ p, y = .ref p ∧ u = .ref p := by
  obtain ⟨xs, rfl, _⟩ := sc_of hk hs
  obtain ⟨p, rfl⟩ := tup_ref ry
  exact ⟨p, rfl, rv⟩
/-- d[k] -/
theorem dv_getItem {Q : Value → Shared → Prop} (hw : mg.w = X.w) (hu : A.units + 64 < cLine) (I : Inv X pins σ W.H s) (d : DV X.K mg W a kvs) (ok : kOk k kvs = true) (ry : RepD X.K mg W k y) (rv : RelV y u) (hx : look k kvs = some x)
    (h : ∀ b u' t, RepD X.K mg W x b → RelV b u' → Q u' { s with toks := t }) : wpAny (model X.prog X.w) A (getItem (.ref a) u) Q E s := by
  obtain ⟨hk, hs⟩ := d.sort ok
  cases e : k.isSc with
  | true =>
    obtain ⟨vs, dd, r⟩ := d.sc hw I fun p hp => by rw [hs p hp, e]
    rcases sc_look e r (fun p hp => by rw [hs p hp, e]) with ⟨z, _⟩ | ⟨x', u', b, z, hv, h1, h2⟩
    · rw [hx] at z; cases z
    · rw [hx] at z; cases z
      exact wpAny_getItem_of (knd := mixKind X.prog X.w) (scalar_is e ry rv) dd.mapOf hv (h b u' _ h1 h2)
  | false =>
    obtain ⟨xs, dd, r⟩ := d.tp hw I fun p hp => by rw [hs p hp, e]
    obtain ⟨p, rfl, rfl⟩ := tp_key hk e ry rv
    rcases tp_look (key_kd hk) r d.kd with ⟨z, _⟩ | ⟨x', p', b, z, hv, h1, h2⟩
    · rw [hx] at z; cases z
    · rw [hx] at z; cases z
      exact wpAny_getItem_heap (knd := nestedKind X.prog X.w) (nested_room hu) (key_is I e hk ry) dd hv (h b _ _ h1 h2)
/-- k in d -/
theorem dv_in {Q : Value → Shared → Prop} (hw : mg.w = X.w) (hu : A.units + 64 < cLine) (I : Inv X pins σ W.H s) (d : DV X.K mg W a kvs) (ok : kOk k kvs = true) (ry : RepD X.K mg W k y) (rv : RelV y u)
    (h : ∀ t, Q (.bool (look k kvs).isSome) { s with toks := t }) : wpAny (model X.prog X.w) A (compareOp .In u (.ref a)) Q E s := by
  obtain ⟨hk, hs⟩ := d.sort ok
  cases e : k.isSc with
  | true =>
    obtain ⟨vs, dd, r⟩ := d.sc hw I fun p hp => by rw [hs p hp, e]
    refine wpAny_in_of (knd := mixKind X.prog X.w) (scalar_is e ry rv) (d.lo I) dd.mapOf ?_
    rcases sc_look e r (fun p hp => by rw [hs p hp, e]) with ⟨z, z'⟩ | ⟨x', u', b, z, z', _⟩ <;> (rw [z']; rw [z] at h; exact h _)
  | false =>
    obtain ⟨xs, dd, r⟩ := d.tp hw I fun p hp => by rw [hs p hp, e]
    obtain ⟨p, rfl, rfl⟩ := tp_key hk e ry rv
    refine wpAny_in_heap (knd := nestedKind X.prog X.w) (nested_room hu) (key_is I e hk ry) (d.lo I) dd ?_
    rcases tp_look (key_kd hk) r d.kd with ⟨z, z'⟩ | ⟨x', u', b, z, z', _⟩ <;> (rw [z']; rw [z] at h; exact h _)
theorem dv_notIn {Q : Value → Shared → Prop} (hw : mg.w = X.w) (hu : A.units + 64 < cLine) (I : Inv X pins σ W.H s) (d : DV X.K mg W a kvs) (ok : kOk k kvs = true) (ry : RepD X.K mg W k y) (rv : RelV y u)
    (h : ∀ t, Q (.bool (!(look k kvs).isSome)) { s with toks := t }) : wpAny (model X.prog X.w) A (compareOp .NotIn u (.ref a)) Q E s := by
  obtain ⟨hk, hs⟩ := d.sort ok
  cases e : k.isSc with
  | true =>
    obtain ⟨vs, dd, r⟩ := d.sc hw I fun p hp => by rw [hs p hp, e]
    refine wpAny_notIn_of (knd := mixKind X.prog X.w) (scalar_is e ry rv) (d.lo I) dd.mapOf ?_
    rcases sc_look e r (fun p hp => by rw [hs p hp, e]) with ⟨z, z'⟩ | ⟨x', u', b, z, z', _⟩ <;> (rw [z']; rw [z] at h; exact h _)
  | false =>
    obtain ⟨xs, dd, r⟩ := d.tp hw I fun p hp => by rw [hs p hp, e]
    obtain ⟨p, rfl, rfl⟩ := tp_key hk e ry rv
    refine wpAny_notIn_heap (knd := nestedKind X.prog X.w) (nested_room hu) (key_is I e hk ry) (d.lo I) dd ?_
    rcases tp_look (key_kd hk) r d.kd with ⟨z, z'⟩ | ⟨x', u', b, z, z', _⟩ <;> (rw [z']; rw [z] at h; exact h _)
/-- d.get(k) -/
theorem dv_get1 {Q : Value → Shared → Prop} (hw : mg.w = X.w) (hu : A.units + 64 < cLine) (I : Inv X pins σ W.H s) (d : DV X.K mg W a kvs) (ok : kOk k kvs = true) (ry : RepD X.K mg W k y) (rv : RelV y u)
    (h : ∀ b u' t, RepD X.K mg W ((look k kvs).getD .non) b → RelV b u' → Q u' { s with toks := t }) : wpAny (model X.prog X.w) A (call (.builtin "dict.get") [.ref a, u]) Q E s := by
  obtain ⟨hk, hs⟩ := d.sort ok
  cases e : k.isSc with
  | true =>
    obtain ⟨vs, dd, r⟩ := d.sc hw I fun p hp => by rw [hs p hp, e]
    refine call_meetsIn PySem.F.slot_dict_get dd.typeIs PySem.F.entry_dict_get (PySem.F.args_dict_get_2 _ _) (meets_dict_get (mixKind X.prog X.w) a (scalar_is e ry rv) (d.lo I)) ⟨_, dd.mapOf, ?_⟩
    rcases sc_look e r (fun p hp => by rw [hs p hp, e]) with ⟨z, z'⟩ | ⟨x', u', b, z, z', h1, h2⟩
    · rw [z']; rw [z] at h; exact h _ _ _ .non rfl
    · rw [z']; rw [z] at h; exact h _ _ _ h1 h2
  | false =>
    obtain ⟨xs, dd, r⟩ := d.tp hw I fun p hp => by rw [hs p hp, e]
    obtain ⟨p, rfl, rfl⟩ := tp_key hk e ry rv
    refine call_meetsIn PySem.F.slot_dict_get dd.typeIs PySem.F.entry_dict_get (PySem.F.args_dict_get_2 _ _) (meetsH_dict_get (nestedKind X.prog X.w) a p (d.lo I)) ⟨nested_room hu, _, xs, key_is I e hk ry, dd, ?_⟩
    rcases tp_look (key_kd hk) r d.kd with ⟨z, z'⟩ | ⟨x', u', b, z, z', h1, h2⟩
    · rw [z']; rw [z] at h; exact h _ _ _ .non rfl
    · rw [z']; rw [z] at h; exact h _ _ _ h1 h2
/-- d.get(k, x) -/
theorem dv_get2 {w : D} {b0 : V} {u0 : Value} {Q : Value → Shared → Prop} (hw : mg.w = X.w) (hu : A.units + 64 < cLine) (I : Inv X pins σ W.H s) (d : DV X.K mg W a kvs) (ok : kOk k kvs = true) (ry : RepD X.K mg W k y) (rv : RelV y u) (r0 : RepD X.K mg W w b0) (v0 : RelV b0 u0)
    (h : ∀ b u' t, RepD X.K mg W ((look k kvs).getD w) b → RelV b u' → Q u' { s with toks := t }) : wpAny (model X.prog X.w) A (call (.builtin "dict.get") [.ref a, u, u0]) Q E s := by
  obtain ⟨hk, hs⟩ := d.sort ok
  cases e : k.isSc with
  | true =>
    obtain ⟨vs, dd, r⟩ := d.sc hw I fun p hp => by rw [hs p hp, e]
    refine call_meetsIn PySem.F.slot_dict_get dd.typeIs PySem.F.entry_dict_get (PySem.F.args_dict_get_3 _ _ _) (meets_dict_get_default (mixKind X.prog X.w) a (scalar_is e ry rv) (d.lo I) u0) ⟨_, dd.mapOf, ?_⟩
    rcases sc_look e r (fun p hp => by rw [hs p hp, e]) with ⟨z, z'⟩ | ⟨x', u', b, z, z', h1, h2⟩
    · rw [z']; rw [z] at h; exact h _ _ _ r0 v0
    · rw [z']; rw [z] at h; exact h _ _ _ h1 h2
  | false =>
    obtain ⟨xs, dd, r⟩ := d.tp hw I fun p hp => by rw [hs p hp, e]
    obtain ⟨p, rfl, rfl⟩ := tp_key hk e ry rv
    refine call_meetsIn PySem.F.slot_dict_get dd.typeIs PySem.F.entry_dict_get (PySem.F.args_dict_get_3 _ _ _) (meetsH_dict_get_default (nestedKind X.prog X.w) a p (d.lo I) u0) ⟨nested_room hu, _, xs, key_is I e hk ry, dd, ?_⟩
    rcases tp_look (key_kd hk) r d.kd with ⟨z, z'⟩ | ⟨x', u', b, z, z', h1, h2⟩
    · rw [z']; rw [z] at h; exact h _ _ _ r0 v0
    · rw [z']; rw [z] at h; exact h _ _ _ h1 h2
/-- the dict's object is replaced -/
theorem dv_write {h' : Heap} {t' : Nat} {es es' : List DictEntry} {ep ep' : Nat} {o : Obj} (I : Inv X pins σ W.H s) (e : W.H a = some (DictO a es ep)) (hs : Heap.SameBut a s.heap h') (h1 : h'.get? a = some o) (h2 : o.ExactDict) (h3 : o.data = .dict es'.toArray ep') :
    Inv X pins σ (upd W.H a (DictO a es' ep')) { s with heap := h', toks := t' } :=
  I.write (x := a) (e := a) (by rw [e]; exact True.intro) (.inl rfl) (fun b q hb z => (hs.2 b hb).trans z) ⟨o, h1⟩ (dictO_ok (dict_raw I (.inl e)).1 h1 h2 h3)
/-- d[k] = x -/
theorem dv_setItem {es : List DictEntry} {ep : Nat} {b0 : V} {u0 : Value} {Q : Unit → Shared → Prop} (hw : mg.w = X.w) (hu : A.units + 64 < cLine) (I : Inv X pins σ W.H s) (e0 : W.H a = some (DictO a es ep)) (en : Ents X.K mg W kvs es) (o : DOk kvs) (ok : kOk k kvs = true) (hl : kvs.length < sizeLine)
    (ry : RepD X.K mg W k y) (rv : RelV y u) (r0 : RepD X.K mg W x b0) (v0 : RelV b0 u0) (h : ∀ es' ep' s', Ents X.K mg W (put k x kvs) es' → Inv X pins σ (upd W.H a (DictO a es' ep')) s' → Q () s') : wpAny (model X.prog X.w) A (setItem (.ref a) u u0) Q E s := by
  have d : DV X.K mg W a kvs := ⟨es, ep, .inl e0, en, o⟩
  obtain ⟨hk, hs⟩ := d.sort ok
  have hks : ∀ p ∈ put k x kvs, p.1.isSc = k.isSc := fun p hp => by
    rcases put_mem hp with e | ⟨q, hq, e⟩
    · rw [e]
    · rw [← e]; exact hs q hq
  cases e : k.isSc with
  | true =>
    obtain ⟨vs, dd, r⟩ := d.sc hw I fun p hp => by rw [hs p hp, e]
    have hz : vs.length ≤ sizeLine := by rw [← Paired.length r]; exact o.len
    refine wpAny_setItem_pairs (knd := mixKind X.prog X.w) (hsz := hz) (scalar_is e ry rv) dd fun h' dd' hs' => ?_
    obtain ⟨q, es', ep', hq, h2, h3, h4, h5, _⟩ := dd'
    have rr := sc_put (k := k) e r0 v0 r (fun p hp => by rw [hs p hp, e]) o.nd
    refine h es'.toList ep' _ ?_ (dv_write I e0 hs' hq h2 (by rw [h3]))
    exact Ents.of_sc (prog := X.prog) (by rw [hw]; exact fun e he => h4 e (by simpa using he)) (by rw [hw]; exact h5) rr fun p hp => by rw [hks p hp, e]
  | false =>
    obtain ⟨xs, dd, r⟩ := d.tp hw I fun p hp => by rw [hs p hp, e]
    obtain ⟨p, rfl, rfl⟩ := tp_key hk e ry rv
    have hz : xs.length ≤ sizeLine := by rw [← Paired.length r]; exact o.len
    refine wpAny_setItem_heap (knd := nestedKind X.prog X.w) (hsz := hz) (nested_room hu) (key_is I e hk ry) dd fun h' dd' hs' => ?_
    obtain ⟨q, es', ep', hq, h2, h3, h4, _, _⟩ := dd'
    have rr := tp_put (k := k) (key_kd hk) ry r0 v0 r d.kd o.nd
    refine h es'.toList ep' _ ?_ (dv_write I e0 hs' hq h2 (by rw [h3]))
    rw [h4]
    have := Ents.of_tp (prog := X.prog) rr fun p hp => ⟨by rw [hks p hp, e], (o.put ok hl).key p hp⟩
    rw [hw] at this
    exact this
/-- len(d) -/
theorem dv_len {Q : Value → Shared → Prop} (hw : mg.w = X.w) (I : Inv X pins σ W.H s) (d : DV X.K mg W a kvs) (h : ∀ t t', Q (.int kvs.length t) { s with toks := t' }) : wpAny (model X.prog X.w) A (call (.builtin "len") [.ref a]) Q E s := by
  have d0 := d
  have hl := d.len
  rw [sizeLine_eq] at hl
  obtain ⟨es, ep, hr, en, o⟩ := d
  obtain ⟨h0, ob, h1, h2, h3⟩ := dict_raw I hr
  have hs : ∃ b, ∀ q ∈ kvs, q.1.isSc = b := by
    cases kvs with
    | nil => exact ⟨true, fun q hq => by cases hq⟩
    | cons p r0 =>
      refine ⟨p.1.isSc, fun q hq => ?_⟩
      rcases List.mem_cons.mp hq with rfl | hq
      · rfl
      · simpa using List.all_eq_true.mp (show r0.all (fun q => q.1.isSc == p.1.isSc) = true from o.sort) q hq
  obtain ⟨b, hs⟩ := hs
  cases b with
  | true =>
    obtain ⟨vs, dd, r⟩ := d0.sc hw I hs
    refine call_len_dict (knd := mixKind X.prog X.w) h0 dd (by rw [← Paired.length r]; omega) ?_
    rw [← Paired.length r]
    exact h _ _
  | false =>
    obtain ⟨xs, dd, r⟩ := d0.tp hw I hs
    refine PySem.call_len_dictH (knd := nestedKind X.prog X.w) h0 dd (by rw [← Paired.length r]; omega) ?_
    rw [← Paired.length r]
    exact h _ _
end
end Ly
/-! Ly: comparisons. -/
namespace Ly
open PySem PySem.Spec PyProof.Rows L2 PySem.SeqAt Ob
open PySem.AutoSeq1 (wpAny_loadPart')
open PySem.MeetsSeq PySem.MeetsSeq2 PySem.MeetsSeq3

/-! ### < of tuples: the first unequal pair alone is asked -/
theorem tupLtFirst (l b : Addr) (items items2 : Array Value) (n n2 : Nat) (dd dd2 : Option Addr) (sl sl2 : Array (Option Value)) (e r : Nat → Bool) :
    Meets (Builtin.«tuple.__lt__» ⟨[.ref l, .ref b], []⟩)
      (fun A R s => s.heap.get? l = some { cls := .type "tuple", dict := dd, data := .seq items n, slots := sl } ∧ s.heap.get? b = some { cls := .type "tuple", dict := dd2, data := .seq items2 n2, slots := sl2 } ∧
        (∀ j (h1 : j < items.size) (h2 : j < items2.size), (∀ i, i < j → e i = true) → EqAt A.in1 s items[j] items2[j] (e j)) ∧
        (∀ j (h1 : j < items.size) (h2 : j < items2.size), (∀ i, i < j → e i = true) → e j = false → RcOp .Lt A.in1 s items[j] items2[j] (r j)) ∧
        R (.ok (.ret (.bool (lexAt e r (decide (items.size < items2.size)) 0 (min items.size items2.size))))) s) :=
  .of_wp fun prog w A R s h => by
    obtain ⟨hp, g, d, tk, os⟩ := s; obtain ⟨hl, hb, he, hr, h⟩ := h
    have f2 := AutoSeq1.sub_tuple_tuple
    have hZ : (items.toList.zip items2.toList).length = min items.size items2.size := by simp
    wp_walk using wpAny_loadPart' hl, wpAny_loadPart' hb, wpAny_forIn_list _ (fun rest b s' => b.1 = none ∧ s' = ⟨hp, g, d, tk, os⟩ ∧ ∃ i, rest = (items.toList.zip items2.toList).drop i ∧ (∀ k, k < i → e k = true) ∧
      R (.ok (.ret (.bool (lexAt e r (decide (items.size < items2.size)) i (min items.size items2.size - i))))) ⟨hp, g, d, tk, os⟩) _
    case turn =>
      rintro ⟨y, x⟩ rest b s' ⟨hb', rfl, i, hz, hall, hR⟩
      have hlt : i < (items.toList.zip items2.toList).length := by
        rcases Nat.lt_or_ge i (items.toList.zip items2.toList).length with h' | h'
        · exact h'
        · rw [List.drop_of_length_le h'] at hz; cases hz
      have hm : i < min items.size items2.size := hZ ▸ hlt
      have h1 : i < items.size := Nat.lt_of_lt_of_le hm (Nat.min_le_left _ _)
      have h2 : i < items2.size := Nat.lt_of_lt_of_le hm (Nat.min_le_right _ _)
      rw [List.drop_eq_getElem_cons hlt] at hz
      injection hz with hyx hrest
      have hy : y = items[i] := by have := congrArg Prod.fst hyx; simpa using this
      have hx : x = items2[i] := by have := congrArg Prod.snd hyx; simpa using this
      subst hy hx
      rw [show min items.size items2.size - i = (min items.size items2.size - (i + 1)) + 1 by omega, lexAt_succ] at hR
      refine wpAny_bind (he i h1 h2 hall prog w _ _ ?_)
      cases hei : e i with
      | true =>
        rw [hei, if_pos rfl] at hR
        wp_walk
        exact ⟨rfl, rfl, i + 1, hrest, fun k hk => by rcases Nat.lt_succ_iff_lt_or_eq.mp hk with z | z; exact hall k z; rw [z]; exact hei, hR⟩
      | false =>
        rw [hei, if_neg Bool.false_ne_true] at hR
        have hri := hr i h1 h2 hall hei prog w
        wp_walk using hri
        exact ⟨_, rfl, by simpa using hR⟩
    case fin =>
      rintro ⟨b1, b2⟩ s' ⟨hb', rfl, i, hz, hall, hR⟩
      simp only at hb'
      subst hb'
      have hge : min items.size items2.size ≤ i := by
        rcases Nat.lt_or_ge i (items.toList.zip items2.toList).length with h' | h'
        · rw [List.drop_eq_getElem_cons h'] at hz; cases hz
        · exact hZ ▸ h'
      rw [Nat.sub_eq_zero_of_le hge, lexAt_zero] at hR
      wp_walk
      exact ⟨_, rfl, by simpa [Builtin.Tuple.tupleCompareSizes] using hR⟩
    case h =>
      exact ⟨rfl, rfl, 0, rfl, fun k hk => absurd hk (Nat.not_lt_zero k), by simpa using h⟩
theorem tuples_ltF {A : Around} {s : Shared} {l b : Addr} {items items2 : Array Value} {e r : Nat → Bool} (hl : s.heap.IsTuple l items) (hb : s.heap.IsTuple b items2) (hu : A.units < cLine)
    (he : ∀ j (h1 : j < items.size) (h2 : j < items2.size), (∀ i, i < j → e i = true) → EqAt A.in1 s items[j] items2[j] (e j))
    (hr : ∀ j (h1 : j < items.size) (h2 : j < items2.size), (∀ i, i < j → e i = true) → e j = false → RcOp .Lt A.in1 s items[j] items2[j] (r j)) :
    RcOp .Lt A s (.ref l) (.ref b) (lexAt e r (decide (items.size < items2.size)) 0 (min items.size items2.size)) := fun prog w E Q h => by
  obtain ⟨⟨cls, dd, data, sl⟩, ho, hc, n, hd⟩ := id hl
  obtain ⟨⟨cls2, dd2, data2, sl2⟩, ho2, hc2, n2, hd2⟩ := id hb
  simp only at hc hd hc2 hd2
  subst hc hd hc2 hd2
  have M := tupLtFirst l b items items2 n n2 dd dd2 sl sl2 e r
  exact richCompare_meets_room (op := .Lt) ⟨_, ho, rfl⟩ ⟨_, ho2, rfl⟩ F.slot_tuple_lt F.entry_tuple_lt (F.args_tuple_lt_2 _ _) M ⟨ho, ho2, he, hr, ⟨(fun x => nomatch x), h⟩⟩ hu

def ltPair (xs ys : List D) (j : Nat) : Bool := match xs[j]?, ys[j]? with
  | some x, some y => D.lt x y
  | _, _ => false
theorem lex_lts : ∀ (xs ys : List D) , lexAt (pairD xs ys) (ltPair xs ys) (decide (xs.length < ys.length)) 0 (min xs.length ys.length) = D.lts xs ys := by
  have g : ∀ (xs ys xs0 ys0 : List D) (z : Bool) (i : Nat), xs = xs0.drop i → ys = ys0.drop i → (z = decide (xs.length < ys.length)) → lexAt (pairD xs0 ys0) (ltPair xs0 ys0) z i (min xs.length ys.length) = D.lts xs ys := by
    intro xs
    induction xs with
    | nil =>
      intro ys xs0 ys0 z i h1 h2 hz
      cases ys with
      | nil => rw [hz]; rfl
      | cons y ys => rw [hz]; simp [lexAt_zero, D.lts]
    | cons x xs ih =>
      intro ys xs0 ys0 z i h1 h2 hz
      cases ys with
      | nil => rw [hz]; simp [lexAt_zero, D.lts]
      | cons y ys =>
        have gx : xs0[i]? = some x := by
          have := congrArg (fun l => l[0]?) h1
          simpa using this.symm
        have gy : ys0[i]? = some y := by
          have := congrArg (fun l => l[0]?) h2
          simpa using this.symm
        have e1 : pairD xs0 ys0 i = D.eqv x y := by simp [pairD, gx, gy]
        have e2 : ltPair xs0 ys0 i = D.lt x y := by simp [ltPair, gx, gy]
        rw [List.length_cons, List.length_cons, Nat.succ_min_succ, lexAt_succ, e1, e2, D.lts]
        have d1 : xs = xs0.drop (i + 1) := by
          have := congrArg List.tail h1
          simpa using this
        have d2 : ys = ys0.drop (i + 1) := by
          have := congrArg List.tail h2
          simpa using this
        rw [ih ys xs0 ys0 z (i + 1) d1 d2 (by rw [hz]; simp)]
  intro xs ys
  exact g xs ys xs ys _ 0 (by simp) (by simp) rfl

section
variable {X : Cx} {pins : List (Addr × Obj)} {σ : L2.St} {s : Shared} {mg : MG} {W : Wd}
theorem plain_of_ltOk : ∀ (a b : D), D.ltOk a b = true → notRef a = true ∧ notRef b = true := by
  intro a b h
  cases a <;> cases b <;> first | exact ⟨rfl, rfl⟩ | (cases h; done)
mutual
theorem rcLt_D (I : Inv X pins σ W.H s) : ∀ (a b : D) (x y : V) (v u : Value) (A : Around), At X.K mg W a x → At X.K mg W b y → RelV x v → RelV y u → D.ltOk a b = true →
    A.units + min a.depth b.depth < cLine → RcOp .Lt A s v u (D.lt a b)
  | .int p, .int q, _, _, _, _, A, h1, h2, r1, r2, _, _ => by
    obtain rfl := h1; obtain ⟨t1, rfl⟩ := r1
    obtain rfl := h2; obtain ⟨t2, rfl⟩ := r2
    exact RcOp.lt_int p q t1 t2
  | .str p, .str q, _, _, _, _, A, h1, h2, r1, r2, _, _ => by
    obtain rfl := h1; obtain ⟨t1, rfl⟩ := r1
    obtain rfl := h2; obtain ⟨t2, rfl⟩ := r2
    exact fun _ _ _ _ h => lt_str h
  | .tup p, .tup q, _, _, _, _, A, h1, h2, r1, r2, hk, hu => by
    obtain ⟨l1, vs1, rfl, sq1, ds1⟩ := h1; cases r1; obtain ⟨its1, rv1, pl1, z1⟩ := I.tuple sq1.sq
    obtain ⟨l2, vs2, rfl, sq2, ds2⟩ := h2; cases r2; obtain ⟨its2, rv2, pl2, z2⟩ := I.tuple sq2.sq
    have n1 : its1.toArray.size = p.length := by rw [List.size_toArray, ← rv1.length, ds1.length]
    have n2 : its2.toArray.size = q.length := by rw [List.size_toArray, ← rv2.length, ds2.length]
    have hu' : A.in1.units + min (D.depths p) (D.depths q) < cLine := by show A.units + 1 + _ < _; simp only [D.depth] at hu; omega
    have key := rcLt_Ds I p q vs1 vs2 its1 its2 A.in1 ds1 ds2 rv1 rv2 hk hu'
    have R := tuples_ltF (A := A) (tupIs pl1) (tupIs pl2) (by omega) (e := pairD p q) (r := ltPair p q) (fun j j1 j2 ha => by simpa using (key j (by simpa using j1) (by simpa using j2) ha).1)
      (fun j j1 j2 ha hf => by simpa using (key j (by simpa using j1) (by simpa using j2) ha).2 hf)
    rw [n1, n2, lex_lts] at R
    exact R
  | .non, b, _, _, _, _, _, _, _, _, _, hk, _ => by cases b <;> cases hk
  | .bl _, b, _, _, _, _, _, _, _, _, _, hk, _ => by cases b <;> cases hk
  | .lst _, b, _, _, _, _, _, _, _, _, _, hk, _ => by cases b <;> cases hk
  | .dct _, b, _, _, _, _, _, _, _, _, _, hk, _ => by cases b <;> cases hk
  | .set _, b, _, _, _, _, _, _, _, _, _, hk, _ => by cases b <;> cases hk
  | .ref _, b, _, _, _, _, _, _, _, _, _, hk, _ => by cases b <;> cases hk
  | .fn _, b, _, _, _, _, _, _, _, _, _, hk, _ => by cases b <;> cases hk
  | .ty _, b, _, _, _, _, _, _, _, _, _, hk, _ => by cases b <;> cases hk
  | .int _, .non, _, _, _, _, _, _, _, _, _, hk, _ => by cases hk
  | .int _, .bl _, _, _, _, _, _, _, _, _, _, hk, _ => by cases hk
  | .int _, .str _, _, _, _, _, _, _, _, _, _, hk, _ => by cases hk
  | .int _, .tup _, _, _, _, _, _, _, _, _, _, hk, _ => by cases hk
  | .int _, .lst _, _, _, _, _, _, _, _, _, _, hk, _ => by cases hk
  | .int _, .dct _, _, _, _, _, _, _, _, _, _, hk, _ => by cases hk
  | .int _, .set _, _, _, _, _, _, _, _, _, _, hk, _ => by cases hk
  | .int _, .ref _, _, _, _, _, _, _, _, _, _, hk, _ => by cases hk
  | .int _, .fn _, _, _, _, _, _, _, _, _, _, hk, _ => by cases hk
  | .int _, .ty _, _, _, _, _, _, _, _, _, _, hk, _ => by cases hk
  | .str _, .non, _, _, _, _, _, _, _, _, _, hk, _ => by cases hk
  | .str _, .bl _, _, _, _, _, _, _, _, _, _, hk, _ => by cases hk
  | .str _, .int _, _, _, _, _, _, _, _, _, _, hk, _ => by cases hk
  | .str _, .tup _, _, _, _, _, _, _, _, _, _, hk, _ => by cases hk
  | .str _, .lst _, _, _, _, _, _, _, _, _, _, hk, _ => by cases hk
  | .str _, .dct _, _, _, _, _, _, _, _, _, _, hk, _ => by cases hk
  | .str _, .set _, _, _, _, _, _, _, _, _, _, hk, _ => by cases hk
  | .str _, .ref _, _, _, _, _, _, _, _, _, _, hk, _ => by cases hk
  | .str _, .fn _, _, _, _, _, _, _, _, _, _, hk, _ => by cases hk
  | .str _, .ty _, _, _, _, _, _, _, _, _, _, hk, _ => by cases hk
  | .tup _, .non, _, _, _, _, _, _, _, _, _, hk, _ => by cases hk
  | .tup _, .bl _, _, _, _, _, _, _, _, _, _, hk, _ => by cases hk
  | .tup _, .int _, _, _, _, _, _, _, _, _, _, hk, _ => by cases hk
  | .tup _, .str _, _, _, _, _, _, _, _, _, _, hk, _ => by cases hk
  | .tup _, .lst _, _, _, _, _, _, _, _, _, _, hk, _ => by cases hk
  | .tup _, .dct _, _, _, _, _, _, _, _, _, _, hk, _ => by cases hk
  | .tup _, .set _, _, _, _, _, _, _, _, _, _, hk, _ => by cases hk
  | .tup _, .ref _, _, _, _, _, _, _, _, _, _, hk, _ => by cases hk
  | .tup _, .fn _, _, _, _, _, _, _, _, _, _, hk, _ => by cases hk
  | .tup _, .ty _, _, _, _, _, _, _, _, _, _, hk, _ => by cases hk
theorem rcLt_Ds (I : Inv X pins σ W.H s) : ∀ (xs ys : List D) (vs ws : List V) (its its2 : List Value) (A : Around), RepDs X.K mg W xs vs → RepDs X.K mg W ys ws → Vals vs its → Vals ws its2 → D.ltOks xs ys = true →
    A.units + min (D.depths xs) (D.depths ys) < cLine → ∀ j (j1 : j < its.length) (j2 : j < its2.length), (∀ i, i < j → pairD xs ys i = true) →
      EqAt A s its[j] its2[j] (pairD xs ys j) ∧ (pairD xs ys j = false → RcOp .Lt A s its[j] its2[j] (ltPair xs ys j))
  | [], _, _, _, _, _, _, h1, _, r1, _, _, _, j, j1, _, _ => by cases h1; cases r1; exact absurd j1 (by simp)
  | _ :: _, [], _, _, _, _, _, _, h2, _, r2, _, _, j, _, j2, _ => by cases h2; cases r2; exact absurd j2 (by simp)
  | x :: xs, y :: ys, _, _, _, _, A, .cons p1 q1, .cons p2 q2, .cons r1 s1, .cons r2 s2, hk, hu, j, j1, j2, ha => by
    rw [D.ltOks, Bool.and_eq_true, Bool.and_eq_true] at hk
    simp only [D.depths] at hu
    obtain ⟨⟨k1, k2⟩, k3⟩ := hk
    cases j with
    | zero =>
      refine ⟨eqAt_D I x y _ _ _ _ A (p1.at (plain_notRef k1)) (p2.at (plain_notRef k2)) r1 r2 k1 k2 (by omega), fun hf => ?_⟩
      have hf : D.eqv x y = false := hf
      rw [hf, if_neg Bool.false_ne_true] at k3
      exact rcLt_D I x y _ _ _ _ A (p1.at (plain_notRef k1)) (p2.at (plain_notRef k2)) r1 r2 k3 (by omega)
    | succ j =>
      have h0 : D.eqv x y = true := ha 0 (Nat.succ_pos j)
      rw [h0, if_pos rfl] at k3
      have e : ltPair (x :: xs) (y :: ys) (j + 1) = ltPair xs ys j := by simp [ltPair]
      rw [pairD_succ, e]
      exact rcLt_Ds I xs ys _ _ _ _ A q1 q2 s1 s2 k3 (by omega) j (by simpa using j1) (by simpa using j2) fun i hi => by
        have := ha (i + 1) (Nat.succ_lt_succ hi)
        rwa [pairD_succ] at this
end

/-! ### is -/
theorem val_ne {v : Value} {c : Bool} (h : v ≠ .bool c) : (v == Value.bool c) = false := beq_eq_false_iff_ne.mpr h
theorem is_bool_any {x : V} {v : Value} {c : Bool} {Q : Value → Shared → Prop} {M : Model} {A : Around} {E : Value → Shared → Prop} (r : RelV x v) (h : Q (.bool (decide (x = .bl c))) s) : wpAny M A (compareOp .Is v (.bool c)) Q E s := by
  cases x with
  | non => cases r; exact wpAny_pure (by rw [val_ne (c := c) (by intro z; cases z)]; simpa using h)
  | bl b => cases r; exact wpAny_pure (by rw [show (Value.bool b == Value.bool c) = decide (V.bl b = V.bl c) from by cases b <;> cases c <;> decide +kernel]; exact h)
  | int i => obtain ⟨t, rfl⟩ := r; exact wpAny_pure (by rw [val_ne (c := c) (by intro z; cases z)]; simpa using h)
  | str i => obtain ⟨t, rfl⟩ := r; exact wpAny_pure (by rw [val_ne (c := c) (by intro z; cases z)]; simpa using h)
  | byt i => obtain ⟨t, rfl⟩ := r; exact wpAny_pure (by rw [val_ne (c := c) (by intro z; cases z)]; simpa using h)
  | flt i => obtain ⟨t, rfl⟩ := r; exact wpAny_pure (by rw [val_ne (c := c) (by intro z; cases z)]; simpa using h)
  | ref a => cases r; exact wpAny_pure (by rw [val_ne (c := c) (by intro z; cases z)]; simpa using h)
  | ty n => cases r; exact wpAny_pure (by rw [val_ne (c := c) (by intro z; cases z)]; simpa using h)
theorem isnot_bool_any {x : V} {v : Value} {c : Bool} {Q : Value → Shared → Prop} {M : Model} {A : Around} {E : Value → Shared → Prop} (r : RelV x v) (h : Q (.bool (!decide (x = .bl c))) s) : wpAny M A (compareOp .IsNot v (.bool c)) Q E s := by
  cases x with
  | non => cases r; exact wpAny_pure (by rw [val_ne (c := c) (by intro z; cases z)]; simpa using h)
  | bl b => cases r; exact wpAny_pure (by rw [show (Value.bool b == Value.bool c) = decide (V.bl b = V.bl c) from by cases b <;> cases c <;> decide +kernel]; exact h)
  | int i => obtain ⟨t, rfl⟩ := r; exact wpAny_pure (by rw [val_ne (c := c) (by intro z; cases z)]; simpa using h)
  | str i => obtain ⟨t, rfl⟩ := r; exact wpAny_pure (by rw [val_ne (c := c) (by intro z; cases z)]; simpa using h)
  | byt i => obtain ⟨t, rfl⟩ := r; exact wpAny_pure (by rw [val_ne (c := c) (by intro z; cases z)]; simpa using h)
  | flt i => obtain ⟨t, rfl⟩ := r; exact wpAny_pure (by rw [val_ne (c := c) (by intro z; cases z)]; simpa using h)
  | ref a => cases r; exact wpAny_pure (by rw [val_ne (c := c) (by intro z; cases z)]; simpa using h)
  | ty n => cases r; exact wpAny_pure (by rw [val_ne (c := c) (by intro z; cases z)]; simpa using h)
theorem at_non {a : D} {x : V} (h : At X.K mg W a x) : decide (x = .non) = decide (a = .non) := by
  cases a <;> first | (obtain rfl := h; simp; done) | (obtain ⟨_, _, rfl, _⟩ := h; simp; done) | (obtain ⟨_, rfl, _⟩ := h; simp; done) | (obtain ⟨_, _, _, rfl, _⟩ := h; simp; done) | exact h.elim
theorem at_bl {a : D} {x : V} {c : Bool} (h : At X.K mg W a x) : decide (x = .bl c) = decide (a = .bl c) := by
  cases a <;> first | (obtain rfl := h; simp; done) | (obtain ⟨_, _, rfl, _⟩ := h; simp; done) | (obtain ⟨_, rfl, _⟩ := h; simp; done) | (obtain ⟨_, _, _, rfl, _⟩ := h; simp; done) | exact h.elim

/-! ### in -/
open Classical in
noncomputable def hits (its : List Value) (xs : List D) (d : D) (y : Value) : Bool := decide (∃ (j : Nat), its[j]? = some y ∧ ∃ (z : D), xs[j]? = some z ∧ D.eqv z d = true)
theorem plains_get : ∀ {xs : List D} {j : Nat} {z : D}, D.plains xs = true → xs[j]? = some z → z.plain = true
  | [], _, _, _, h => by simp at h
  | x :: xs, 0, z, h, e => by rw [D.plains, Bool.and_eq_true] at h; simp at e; subst e; exact h.1
  | x :: xs, j + 1, z, h, e => by rw [D.plains, Bool.and_eq_true] at h; exact plains_get h.2 (by simpa using e)
theorem depths_get : ∀ {xs : List D} {j : Nat} {z : D}, xs[j]? = some z → z.depth ≤ D.depths xs
  | [], _, _, h => by simp at h
  | x :: xs, 0, z, e => by simp at e; subst e; rw [D.depths]; omega
  | x :: xs, j + 1, z, e => by have := depths_get (xs := xs) (j := j) (z := z) (by simpa using e); rw [D.depths]; omega
section
variable (I : Inv X pins σ W.H s) {xs : List D} {vs : List V} {its : List Value} {d : D} {x : V} {u : Value} {A : Around}
include I
theorem hits_eq (ds : RepDs X.K mg W xs vs) (rv : Vals vs its) (hp : D.plains xs = true) {j : Nat} {y : Value} {z : D} (h1 : its[j]? = some y) (h2 : xs[j]? = some z) : hits its xs d y = D.eqv z d := by
  have same : ∀ {i : Nat} {z' : D}, its[i]? = some y → xs[i]? = some z' → z' = z := fun {i z'} a b => by
    obtain ⟨w1, g1, k1⟩ := ds.get b
    obtain ⟨w2, g2, k2⟩ := ds.get h2
    obtain ⟨u1, g3, k3⟩ := rv.get g1
    obtain ⟨u2, g4, k4⟩ := rv.get g2
    rw [a] at g3; cases g3
    rw [h1] at g4; cases g4
    have e := k3.inj k4
    subst e
    have p1 := plains_get hp b
    have p2 := plains_get hp h2
    exact rep_det I z' z _ (k1.at (plain_notRef p1)) (k2.at (plain_notRef p2)) p1 p2
  unfold hits
  classical
  cases e : D.eqv z d with
  | true => exact decide_eq_true ⟨j, h1, z, h2, e⟩
  | false =>
    refine decide_eq_false fun ⟨i, a, z', b, c⟩ => ?_
    rw [same a b, e] at c
    cases c
theorem hits_any (ds : RepDs X.K mg W xs vs) (rv : Vals vs its) (hp : D.plains xs = true) : its.toArray.any (hits its xs d) = memD d xs := by
  unfold memD
  rw [Bool.eq_iff_iff]
  simp only [List.any_toArray, List.any_eq_true]
  constructor
  · rintro ⟨y, hy, h⟩
    obtain ⟨j, z⟩ := List.getElem?_of_mem hy
    obtain ⟨x', z2, z3⟩ : ∃ x', vs[j]? = some x' ∧ RelV x' y := by
      have hl := rv.length
      have hj := (List.getElem?_eq_some_iff.mp z).1
      obtain ⟨x', hx'⟩ : ∃ x', vs[j]? = some x' := ⟨vs[j]'(by omega), by simp⟩
      obtain ⟨u', a, b⟩ := rv.get hx'
      rw [z] at a; cases a
      exact ⟨x', hx', b⟩
    obtain ⟨d', a, _⟩ := ds.get' z2
    rw [hits_eq I ds rv hp z a] at h
    exact ⟨d', List.mem_of_getElem? a, h⟩
  · rintro ⟨z, hz, h⟩
    obtain ⟨j, a⟩ := List.getElem?_of_mem hz
    obtain ⟨x', b, _⟩ := ds.get a
    obtain ⟨u', c, _⟩ := rv.get b
    exact ⟨u', List.mem_of_getElem? c, by rw [hits_eq I ds rv hp c a]; exact h⟩
theorem hits_at (ds : RepDs X.K mg W xs vs) (rv : Vals vs its) (hp : D.plains xs = true) (hd : At X.K mg W d x) (rx : RelV x u) (pd : d.plain = true) (hu : A.units + d.depth < cLine) :
    ∀ y, y ∈ its.toArray → EqAt A s y u (hits its xs d y) := fun y hy => by
  obtain ⟨j, z⟩ := List.getElem?_of_mem (List.mem_toArray.mp hy)
  have hl := rv.length
  have hj := (List.getElem?_eq_some_iff.mp z).1
  obtain ⟨x', hx'⟩ : ∃ x', vs[j]? = some x' := ⟨vs[j]'(by omega), by simp⟩
  obtain ⟨u', a, b⟩ := rv.get hx'
  rw [z] at a; cases a
  obtain ⟨d', c, k⟩ := ds.get' hx'
  rw [hits_eq I ds rv hp z c]
  have p := plains_get hp c
  exact eqAt_D I d' d _ _ _ _ A (k.at (plain_notRef p)) hd b rx p pd (by omega)
end
/-- a op b by the trees -/
def rCmp (K : PySem.W.Frag) (mg : MG) (o : Cop) : R2 := fun x y H Q => ∃ W a b c, W.H = H ∧ At K mg W a x ∧ At K mg W b y ∧ cmpop o a b = some c ∧ Q (.bl c) W.H
theorem eqOk_inv {a b : D} (h : eqOk a b = true) : a.plain = true ∧ b.plain = true ∧ min a.depth b.depth ≤ 60 := by
  unfold eqOk at h
  simp only [Bool.and_eq_true, decide_eq_true_eq] at h
  exact ⟨h.1.1, h.1.2, h.2⟩
theorem inOk_inv {a : D} {xs : List D} (h : inOk a xs = true) : a.plain = true ∧ D.plains xs = true ∧ a.depth ≤ 60 := by
  unfold inOk at h
  simp only [Bool.and_eq_true, decide_eq_true_eq] at h
  exact ⟨h.1.1, h.1.2, h.2⟩
theorem op_cmp (o : Cop) (mg : MG) (hw : mg.w = X.w) (hu : X.A.units + 64 < cLine) : OpR X (compareOp (copO o)) (rCmp X.K mg o) := by
  intro pins s σ H x y v u Q I rx ry h
  obtain ⟨W, a, b, c, rfl, h1, h2, e, q⟩ := h
  have fin : ∀ {k : Bool}, k = c → EP X pins σ Q (.bool k) s := fun {k} e => ⟨.bl c, W.H, I, by rw [e]; rfl, q⟩
  unfold cmpop at e
  split at e
  · split at e
    · rename_i hz; cases e
      obtain ⟨z1, z2, z3⟩ := eqOk_inv hz
      exact rcAt_D I _ _ _ _ _ _ X.A h1 h2 rx ry z1 z2 (by omega) X.prog X.w X.xe _ (fin rfl)
    · cases e
  · split at e
    · rename_i hz; cases e
      obtain ⟨z1, z2, z3⟩ := eqOk_inv hz
      exact neAt_D I _ _ _ _ _ _ X.A h1 h2 rx ry z1 z2 (by omega) X.prog X.w X.xe _ (fin rfl)
    · cases e
  · split at e
    · rename_i hz; cases e
      rw [Bool.and_eq_true] at hz
      obtain ⟨z1, z2, z3⟩ := eqOk_inv hz.2
      exact rcLt_D I _ _ _ _ _ _ X.A h1 h2 rx ry hz.1 (by omega) X.prog X.w X.xe _ (fin rfl)
    · cases e
  · obtain rfl := h1; obtain ⟨t1, rfl⟩ := rx
    obtain rfl := h2; obtain ⟨t2, rfl⟩ := ry
    cases e
    exact gt_int (fin rfl)
  · obtain rfl := h1; obtain rfl := h2; cases e
    exact op_gt_str pins s σ W.H _ _ v u Q I rx ry ⟨_, _, rfl, rfl, q⟩
  · obtain rfl := h1; obtain ⟨t1, rfl⟩ := rx
    obtain rfl := h2; obtain ⟨t2, rfl⟩ := ry
    cases e
    exact le_int (fin rfl)
  · obtain rfl := h1; obtain ⟨t1, rfl⟩ := rx
    obtain rfl := h2; obtain ⟨t2, rfl⟩ := ry
    cases e
    exact ge_int (fin rfl)
  · obtain rfl := h2; cases e
    exact op_isN pins s σ W.H _ _ v u Q I rx ry ⟨rfl, by rw [at_non h1]; exact q⟩
  · obtain rfl := h2; cases e
    exact op_notN pins s σ W.H _ _ v u Q I rx ry ⟨rfl, by rw [at_non h1]; exact q⟩
  · obtain rfl := h2; cases ry; cases e
    exact is_bool_any rx (fin (at_bl h1))
  · obtain rfl := h2; cases ry; cases e
    exact isnot_bool_any rx (fin (by rw [at_bl h1]))
  · split at e
    · rename_i hz; cases e
      obtain ⟨z1, z2, z3⟩ := inOk_inv hz
      obtain ⟨l, vs, rfl, sq, ds⟩ := h2
      cases ry
      obtain ⟨its, rv, pl, _⟩ := I.tuple sq.sq
      exact in_tupleAt (hits its _ _) (tupIs pl) (hits_at I ds rv z2 h1 rx z1 (by show X.A.units + 1 + _ < _; omega)) (fin (hits_any I ds rv z2))
    · cases e
  · split at e
    · rename_i hz; cases e
      obtain ⟨z1, z2, z3⟩ := inOk_inv hz
      obtain ⟨l, vs, rfl, sq, ds⟩ := h2
      cases ry
      obtain ⟨its, rv, pl, _⟩ := I.tuple sq.sq
      exact notIn_tupleAt (hits its _ _) (tupIs pl) (hits_at I ds rv z2 h1 rx z1 (by show X.A.units + 1 + _ < _; omega)) (fin (by rw [hits_any I ds rv z2]))
    · cases e
  · split at e
    · rename_i hz; cases e
      obtain ⟨z1, z2, z3⟩ := inOk_inv hz
      obtain ⟨l, vs, rfl, sq, ds⟩ := h2
      cases ry
      obtain ⟨its, rv, pl, _⟩ := I.list sq
      exact in_listAt (hits its _ _) pl.isList (hits_at I ds rv z2 h1 rx z1 (by show X.A.units + 1 + _ < _; omega)) (fin (hits_any I ds rv z2))
    · cases e
  · split at e
    · rename_i hz; cases e
      obtain ⟨z1, z2, z3⟩ := inOk_inv hz
      obtain ⟨l, vs, rfl, sq, ds⟩ := h2
      cases ry
      obtain ⟨its, rv, pl, _⟩ := I.list sq
      exact notIn_listAt (hits its _ _) pl.isList (hits_at I ds rv z2 h1 rx z1 (by show X.A.units + 1 + _ < _; omega)) (fin (by rw [hits_any I ds rv z2]))
    · cases e
  · split at e
    · rename_i hz; cases e
      obtain ⟨a, es, ep, rfl, h2⟩ := h2
      cases ry
      have d : DV X.K mg W a _ := ⟨es, ep, h2⟩
      exact dv_in hw hu I d hz (at_rep (d.sort hz).1 h1) rx fun t => ⟨.bl _, W.H, I.tok t, rfl, q⟩
    · cases e
  · split at e
    · rename_i hz; cases e
      obtain ⟨a, es, ep, rfl, h2⟩ := h2
      cases ry
      have d : DV X.K mg W a _ := ⟨es, ep, h2⟩
      exact dv_notIn hw hu I d hz (at_rep (d.sort hz).1 h1) rx fun t => ⟨.bl _, W.H, I.tok t, rfl, q⟩
    · cases e
  · obtain rfl := h1; obtain rfl := h2
    split at e
    · rename_i z1 z2 hz; cases e
      obtain ⟨cc⟩ := z1
      obtain ⟨cl⟩ := cc
      cases cl with
      | nil => exact absurd (show (0 : Nat) = 1 from hz) (by decide)
      | cons c0 r =>
        have hr : r = [] := List.eq_nil_of_length_eq_zero (Nat.succ.inj (show (c0 :: r).length = 0 + 1 from hz))
        subst hr
        refine op_in_sign pins s σ W.H _ _ v u Q I rx ry ⟨c0, z2, rfl, rfl, ?_⟩
        have e : decide (c0 ∈ z2.cps.toList) = (z2.cps.toList.any fun c => ([c0].toArray.toList).head? == some c) := by
          rw [Bool.eq_iff_iff, decide_eq_true_eq, List.any_eq_true]
          exact ⟨fun h => ⟨c0, h, beq_self_eq_true (some c0)⟩, fun ⟨c, h, e⟩ => by have e : some c0 = some c := eq_of_beq e; cases e; exact h⟩
        rw [e]; exact q
    · cases e
  · obtain rfl := h1; obtain rfl := h2
    split at e
    · rename_i z1 z2 hz; cases e
      obtain ⟨cc⟩ := z1
      obtain ⟨cl⟩ := cc
      cases cl with
      | nil => exact absurd (show (0 : Nat) = 1 from hz) (by decide)
      | cons c0 r =>
        have hr : r = [] := List.eq_nil_of_length_eq_zero (Nat.succ.inj (show (c0 :: r).length = 0 + 1 from hz))
        subst hr
        refine op_notIn_sign pins s σ W.H _ _ v u Q I rx ry ⟨c0, z2, rfl, rfl, ?_⟩
        have e : decide (c0 ∈ z2.cps.toList) = (z2.cps.toList.any fun c => ([c0].toArray.toList).head? == some c) := by
          rw [Bool.eq_iff_iff, decide_eq_true_eq, List.any_eq_true]
          exact ⟨fun h => ⟨c0, h, beq_self_eq_true (some c0)⟩, fun ⟨c, h, e⟩ => by have e : some c0 = some c := eq_of_beq e; cases e; exact h⟩
        rw [e]; exact q
    · cases e
  · cases e
end
end Ly
/-! Ly: list(d), tuple(d) of what is walked by an iterator of its own. -/
namespace Ly
open PySem PySem.Spec PyProof.Rows L2 PySem.SeqAt PySem.W
section
variable {prog : Program} {w : World} {A : Around} {E : Value → Shared → Prop} {s : Shared} {T : String} {r d : Addr} {n : Nat} {P : Nat → Value → Prop} {OK : Heap → Prop}
theorem collect_kdl {Q : List Value → Shared → Prop} (K : KdlSrc prog w T r d n P OK) (hh : A.handled = none) (hok : OK s.heap) (hn : n ≤ sizeLine)
    (hQ : ∀ (h' : Heap) (tk : Nat) (acc : Array Value), (∀ b o, s.heap.get? b = some o → h'.get? b = some o) → ItemsOf P acc n → Q acc.toList { s with heap := h', toks := tk }) :
    wpAny (model prog w) A (collect (.ref r)) Q E s := by
  unfold collect
  refine wpAny_bind (wpAny_runValue (codeAny_builtin F.entry_proto_collect ?_))
  rw [Around.under_plainId F.plain_proto_collect _]
  show wpAny _ A.in1 (newList [] >>= fun l => again (.builtin "list.__iadd__" ⟨[l, .ref r], []⟩)) _ _ s
  refine wpAny_bind (wpAny_newObj_type ?_)
  refine wpAny_pure ⟨plainId_quiet F.plain_list_iadd _, codeAny_builtin F.entry_list_iadd ?_⟩
  rw [Around.under_plainId F.plain_list_iadd _]
  show wpAny _ A.in1 (Builtin.List.listExtendWith (.ref s.heap.objs.size) (.ref r) (.ref s.heap.objs.size)) _ _ _
  have hS : (s.heap.push { cls := .type "list", data := .seq ([] : List Value).toArray }).get? s.heap.objs.size = some { cls := .type "list", data := .seq #[] 0 } := Heap.get?_push_size _ rfl
  have hlt := K.there _ hok
  refine wpAny_mono (kdl_extend (A := A) (R := fun rr s' => rr = .ok (.ret (.ref s.heap.objs.size)) ∧ ∃ (h' : Heap) (tk : Nat) (acc : Array Value) (c' : Nat), s' = { s with heap := h', toks := tk } ∧
      (∀ b o, s.heap.get? b = some o → h'.get? b = some o) ∧ h'.get? s.heap.objs.size = some { cls := .type "list", dict := none, data := .seq acc c', slots := #[] } ∧ ItemsOf P acc n)
    (s := { s with heap := s.heap.push { cls := .type "list", data := .seq ([] : List Value).toArray } }) K hh (K.keep _ _ hok fun b _ o e => Heap.get?_push_of_some _ e) _ (Nat.ne_of_gt hlt.1) (Nat.ne_of_gt hlt.2) _ 0 hS
    (fun h' tk acc c' hk e hi => ⟨rfl, h', tk, acc, c', rfl, fun b o q => hk b o (Nat.ne_of_lt (Heap.lt_size q)) (Heap.get?_push_of_some _ q), e, hi⟩) hn) (fun fin s' h => ?_) (fun e s' h => ?_)
  · cases fin with
    | done f =>
      obtain ⟨e, h', tk, acc, c', rfl, hk, hS', hi⟩ := h
      cases e
      show wpAny _ A (load s.heap.objs.size >>= _) _ _ _
      exact wpAny_bind (wpAny_load hS' (wpAny_pure (hQ h' tk acc hk hi)))
    | again c' =>
      refine ⟨h.1, codeAny_mono h.2 fun rr s'' hr' => ?_⟩
      obtain ⟨rfl, h', tk, acc, c', rfl, hk, hS', hi⟩ := hr'
      show wpAny _ A (load s.heap.objs.size >>= _) _ _ _
      exact wpAny_bind (wpAny_load hS' (wpAny_pure (hQ h' tk acc hk hi)))
  · exact absurd h.1 (by simp)
theorem code_tuple_new_kdl {Q₁ : Value → Shared → Prop} (K : KdlSrc prog w T r d n P OK) (ht : (Value.type T == Value.type "tuple") = false) (hh : A.handled = none) (hok : OK s.heap) (hn : n ≤ sizeLine)
    (h : ∀ (h' : Heap) (tk : Nat) (acc : Array Value), (∀ b o, s.heap.get? b = some o → h'.get? b = some o) → ItemsOf P acc n → Q₁ (.ref h'.objs.size) { s with heap := h'.push { cls := .type "tuple", data := .seq acc }, toks := tk }) :
    codeAny (model prog w) A (.call (.builtin "tuple.__new__") ⟨[.type "tuple", .ref r], []⟩) (wants Q₁ E) s := by
  refine codeAny_of_tree ?_
  show wpAny _ A.in1 (do checkBuiltinCall "tuple.__new__" ⟨[.type "tuple", .ref r], []⟩; again (.builtin "tuple.__new__" ⟨[.type "tuple", .ref r], []⟩)) _ _ s
  refine wpAny_bind (wpAny_of_eq (F.newCall_tuple_1 _) (wpAny_pure ⟨plainId_quiet F.plain_tuple_new _, codeAny_builtin F.entry_tuple_new ?_⟩))
  rw [Around.under_plainId F.plain_tuple_new _]
  have hsub := sub_tuple_self
  have hinit := init_tuple_lookup
  have hmh := madeHere_tuple
  have hTI : s.TypeIs (.ref r) T := K.type s hok
  have hh1 : A.in1.handled = none := hh
  wp_walk using wpAny_typeOf hTI, collect_kdl (A := A.in1) K hh1 hok hn
  intro h' tk acc hk hacc
  show wpAny _ _ (Builtin.Tuple.tupleExact acc.toList.toArray >>= fun v => ret v) _ _ _
  unfold Builtin.Tuple.tupleExact
  refine wpAny_bind (wpAny_newObj_type ?_ (by show acc.toList.toArray.size ≤ sizeLine; simp only [Array.toArray_toList]; rw [hacc.1]; exact hn))
  refine wpAny_pure ?_
  have e : acc.toList.toArray = acc := by simp
  rw [e]
  exact h h' tk acc hk hacc
theorem call_tuple_kdl {Q : Value → Shared → Prop} (K : KdlSrc prog w T r d n P OK) (ht : (Value.type T == Value.type "tuple") = false) (hh : A.handled = none) (hok : OK s.heap) (hn : n ≤ sizeLine)
    (hQ : ∀ (h' : Heap) (tk : Nat) (acc : Array Value), (∀ b o, s.heap.get? b = some o → h'.get? b = some o) → ItemsOf P acc n → Q (.ref h'.objs.size) { s with heap := h'.push { cls := .type "tuple", data := .seq acc }, toks := tk }) :
    wpAny (model prog w) A (call (.type "tuple") [.ref r]) Q E s := by
  refine callType_codes (Q₁ := fun obj s₁ => s₁.TypeIs obj "tuple" ∧ Q obj s₁) F.called_tuple (F.typeCall_tuple_1 _) F.entry_object_init
    (code_tuple_new_kdl (A := A.in1) K ht hh hok hn fun h' tk acc hk hacc => ⟨⟨_, Heap.get?_push_size _ rfl, rfl⟩, hQ h' tk acc hk hacc⟩) fun obj s₁ h₁ => ?_
  exact ⟨h₁.1, F.args_object_init_2 obj _, object_init_meets F.called_tuple.init.lookup F.called_tuple.made (by decide) prog w A.in1 _ s₁ ⟨h₁.1, rfl, h₁.2⟩⟩
end

section
variable {X : Cx} {pins : List (Addr × Obj)} {σ : L2.St} {s : Shared} {mg : MG} {W : Wd} {a : Addr} {kvs : List (D × D)}
theorem Ents.parts : ∀ {kvs : List (D × D)} {es : List DictEntry}, Ents X.K mg W kvs es → ∃ ks vs, RepDs X.K mg W (kvs.map (·.1)) ks ∧ Vals ks (es.map (·.key)) ∧ RepDs X.K mg W (kvs.map (·.2)) vs ∧ Vals vs (es.map (·.val))
  | _, _, .nil => ⟨[], [], .nil, .nil, .nil, .nil⟩
  | _, _, .cons h1 h2 h3 h4 _ r => by
    obtain ⟨ks, vs, k1, k2, k3, k4⟩ := Ents.parts r
    exact ⟨_, _, .cons h1 k1, .cons h2 k2, .cons h3 k3, .cons h4 k4⟩
theorem dv_raw {es : List DictEntry} {ep : Nat} (I : Inv X pins σ W.H s) (h : Rd W.H a (DictO a es ep)) : s.heap.DictRaw a es.toArray ep := by
  obtain ⟨_, o, h1, h2, h3⟩ := dict_raw I h
  exact ⟨o, h1, h2, h3⟩
theorem items_list {f : DictEntry → Value} {es : List DictEntry} {acc : Array Value} (h : ItemsOf (fun i v => ∃ hi : i < es.toArray.size, v = f es.toArray[i]) acc es.toArray.size) : acc.toList = es.map f := by
  apply List.ext_getElem?
  intro j
  have hl : acc.toList.length = es.length := by rw [Array.length_toList, h.1]; simp
  rw [List.getElem?_map]
  cases hj : acc.toList[j]? with
  | none =>
    have h1 := List.getElem?_eq_none_iff.mp hj
    rw [List.getElem?_eq_none (by omega)]
    rfl
  | some v =>
    obtain ⟨hi, hv⟩ := h.2 j v (by rw [← Array.getElem?_toList]; exact hj)
    have hi' : j < es.length := by simpa using hi
    rw [List.getElem?_eq_getElem hi', hv]
    simp
/-- list(d) -/
theorem call_list_dct {Q : VK} (hc : X.calm = true) (I : Inv X pins σ W.H s) (d : DV X.K mg W a kvs) (q : ∀ p ks, W.H p = none → RepDs X.K mg W (kvs.map (·.1)) ks → Q (.ref p) (upd W.H p (.lst ks))) :
    wpAny (model X.prog X.w) X.A (call (.type "list") [.ref a]) (EP X pins σ Q) X.xe s := by
  have hl := d.len
  have lo := d.lo I
  obtain ⟨es, ep, hr, en, o⟩ := d
  obtain ⟨ks, vs, k1, k2, _, _⟩ := en.parts
  have hz : es.toArray.size ≤ sizeLine := by rw [List.size_toArray, ← en.length]; exact hl
  refine kdl_call (KdlSrc.rawDict (ep := ep) lo) (I.ok.hd hc) (dv_raw I hr) hz fun h' tk acc' c' kp e it => ?_
  have ea := items_list (f := (·.key)) it
  have hk : ks.length ≤ sizeLine := by rw [← k1.length, List.length_map]; exact hl
  refine ⟨.ref s.heap.objs.size, _, I.laid (t' := tk) (o := .lst ks) kp (Nat.le_refl _) ⟨hk, acc'.toList, c', by rw [ea]; exact k2, by rw [Array.toArray_toList]; exact e⟩, rfl, q _ _ (I.hok.fresh (Nat.le_refl _)) k1⟩
/-- tuple(d) -/
theorem call_tuple_dct {Q : VK} (hc : X.calm = true) (I : Inv X pins σ W.H s) (d : DV X.K mg W a kvs) (q : ∀ p ks, W.H p = none → RepDs X.K mg W (kvs.map (·.1)) ks → Q (.ref p) (upd W.H p (.tup ks))) :
    wpAny (model X.prog X.w) X.A (call (.type "tuple") [.ref a]) (EP X pins σ Q) X.xe s := by
  have hl := d.len
  have lo := d.lo I
  obtain ⟨es, ep, hr, en, o⟩ := d
  obtain ⟨ks, vs, k1, k2, _, _⟩ := en.parts
  have hz : es.toArray.size ≤ sizeLine := by rw [List.size_toArray, ← en.length]; exact hl
  refine call_tuple_kdl (KdlSrc.rawDict (ep := ep) lo) (by decide) (I.ok.hd hc) (dv_raw I hr) hz fun h' tk acc kp it => ?_
  have ea := items_list (f := (·.key)) it
  have hk : ks.length ≤ sizeLine := by rw [← k1.length, List.length_map]; exact hl
  have I1 : Inv X pins σ W.H { s with heap := h', toks := tk } := I.kept kp
  refine ⟨.ref h'.objs.size, _, I1.laid (t' := tk) (h' := h'.push { cls := .type "tuple", data := .seq acc }) (o := .tup ks) (fun b o e => Heap.get?_push_of_some _ e) (Nat.le_refl _) ⟨hk, acc.toList, by rw [ea]; exact k2, by rw [Array.toArray_toList]; exact IsTup.new _ _⟩, rfl, q _ _ (I1.hok.fresh (Nat.le_refl _)) k1⟩
end
end Ly
/-! Ly: places, slices, built-in functions, methods. -/
namespace Ly
open PySem PySem.Spec PyProof.Rows L2 PySem.SeqAt

theorem atI_eq {α : Type} (xs : List α) (i : Int) : Ly.atI xs i = L2.atI xs i := rfl
theorem sIx_eq (n d : Nat) (o : Option Int) : Ly.sIx n d o = HT.sIx n d o := by cases o <;> rfl
section
variable {K : PySem.W.Frag} {mg : MG} {W : Wd} {S : Sto} {xs : List D} {vs : List V}
theorem rep_atI {i : Int} {d : D} (r : RepDs K mg W xs vs) (h : Ly.atI xs i = some d) : ∃ v, L2.atI vs i = some v ∧ RepD K mg W d v := by
  have hl := r.length
  rw [atI_eq] at h
  unfold L2.atI at h ⊢
  cases e : ixN xs.length i with
  | none => rw [e] at h; cases h
  | some j =>
    rw [e] at h
    rw [← hl, e]
    obtain ⟨v, h1, h2⟩ := r.get (i := j) (d := d) h
    exact ⟨v, h1, h2⟩
theorem cut_all {lo hi : Option Int} (r : RepDs K mg W xs vs) (z1 : HT.sIx vs.length 0 lo = 0) (z2 : HT.sIx vs.length vs.length hi = vs.length) : cut xs lo hi = xs := by
  unfold cut
  rw [sIx_eq, sIx_eq, r.length, z1, z2, List.drop_zero, Nat.sub_zero, ← r.length, List.take_length]
theorem rep_cut {lo hi : Option Int} (r : RepDs K mg W xs vs) : RepDs K mg W (cut xs lo hi) (cutV vs lo hi) := by
  unfold cut cutV
  rw [sIx_eq, sIx_eq, r.length]
  exact (r.drop _).take _
end

section
variable {X : Cx} {mg : MG}
/-! ### a[i] -/
def rIdx (K : PySem.W.Frag) (mg : MG) : R2 := fun x y H Q => ∃ W S a b d, W.H = H ∧ Rep K mg W S ∧ At K mg W a x ∧ At K mg W b y ∧ idx a b = some d ∧ Then K mg W S d Q
theorem subTail_dict {Q : Value → Shared → Prop} {A : Around} {E : Value → Shared → Prop} {s : Shared} {value slice : Expr} {o i : Value} (hT : s.TypeIs o "dict") (hs : subscripted slice false o i = operate [o, i] (getItem o i)) (h : wpAny (model X.prog X.w) A (getItem o i) Q E s) :
    wpAny (model X.prog X.w) A (subscriptTail value slice o i) Q E s := by
  unfold subscriptTail
  refine wpAny_bind ?_
  rw [getitemInPython_of_ne hT.not_modules]
  refine wpAny_bind (wpAny_specialOf hT PySem.F.slot_dict_getitem.lookup ?_)
  have fin : wpAny (model X.prog X.w) A (subscripted slice false o i) (fun r s₃ => wpAny (model X.prog X.w) A (letTemporaryGo value o r >>= fun _ => pure r) Q E s₃) E s := by
    rw [hs]
    exact wpAny_operating (wpAny_mono h (fun r s₃ h₃ => wpAny_bind (wpAny_letTemporaryGo (wpAny_pure h₃))) fun _ _ x => x)
  first
    | exact wpAny_pure (wpAny_bind fin)
    | exact wpAny_bind (wpAny_pure fin)
    | exact wpAny_bind fin
    | exact fin
theorem ix_D (hw : mg.w = X.w) (hu : X.A.units + 64 < cLine) : IxR X (rIdx X.K mg) := by
  intro value slice pins s σ H x y v u Q I rx ry h hs
  obtain ⟨W, S, a, b, d, rfl, R, h1, h2, e, q⟩ := h
  unfold idx at e
  split at e
  · obtain ⟨p, vs, rfl, t, r⟩ := h1; obtain rfl := h2
    obtain ⟨w, e1, e2⟩ := rep_atI r e
    exact ix_tup value slice pins s σ W.H _ _ v u Q I rx ry ⟨p, vs, _, w, rfl, rfl, t.sq, e1, q.here R e2⟩ hs
  · obtain ⟨p, vs, rfl, t, r⟩ := h1; obtain rfl := h2
    obtain ⟨w, e1, e2⟩ := rep_atI r e
    exact ix_list value slice pins s σ W.H _ _ v u Q I rx ry ⟨p, vs, _, w, rfl, rfl, t, e1, q.here R e2⟩ hs
  · obtain rfl := h1; obtain rfl := h2
    split at e
    · rename_i hz
      obtain ⟨c, e1, rfl⟩ := Option.map_eq_some_iff.mp e
      exact ix_str value slice pins s σ W.H _ _ v u Q I rx ry ⟨_, _, c, rfl, rfl, by rw [← line_eq]; exact hz, e1, q.here R (.str _)⟩ hs
    · cases e
  · obtain ⟨a, es, ep, rfl, h1⟩ := h1
    split at e
    · rename_i hz
      cases rx
      have dv : DV X.K mg W a _ := ⟨es, ep, h1⟩
      refine subTail_dict (dv.typeIs I) hs ?_
      exact dv_getItem hw hu I dv hz (at_rep (dv.sort hz).1 h2) ry e fun b u' t k1 k2 => ⟨b, W.H, I.tok t, k2, q.here R k1⟩
    · cases e
  · cases e

/-! ### a[lo:hi] -/
def rSlc (K : PySem.W.Frag) (mg : MG) : V → Option Int → Option Int → Hp → VK → Prop := fun x lo hi H Q => ∃ W S a d, W.H = H ∧ Rep K mg W S ∧ At K mg W a x ∧ slice a lo hi = some d ∧ Then K mg W S d Q
theorem sl_D : SlR X (rSlc X.K mg) := by
  intro pins s σ H x v vl vu lo hi sl Q I rx hs pl pu h
  obtain ⟨W, S, a, d, rfl, R, h1, e, q⟩ := h
  unfold slice at e
  split at e
  · cases e
    obtain ⟨p, vs, rfl, t, r⟩ := h1
    refine sl_tupA pins s σ W.H _ v vl vu lo hi sl Q I rx hs pl pu ⟨p, vs, rfl, t.sq, fun ⟨z1, z2⟩ => ?_, fun _ p' hn => q.tup R (rep_cut r) p' hn⟩
    rw [cut_all r z1 z2] at q
    exact q.here R (.tup t r)
  · cases e
    obtain ⟨p, vs, rfl, t, r⟩ := h1
    exact sl_list pins s σ W.H _ v vl vu lo hi sl Q I rx hs pl pu ⟨p, vs, rfl, t, fun p' hn => q.lst R (rep_cut r) p' hn⟩
  · obtain rfl := h1
    split at e
    · rename_i z hz; cases e
      refine sl_str pins s σ W.H _ v vl vu lo hi sl Q I rx hs pl pu ⟨z, rfl, by rw [← line_eq]; exact hz, ?_⟩
      have e : cutS z lo hi = ⟨(cut z.cps.toList lo hi).toArray⟩ := by
        unfold cutS cut
        rw [sIx_eq, sIx_eq]
        have hl : z.length = z.cps.toList.length := by simp [Str.length]
        simp only [hl]
      rw [e]
      exact q.here R (.str _)
    · cases e
  · cases e

/-! ### built-in functions and types -/
def AtB (K : PySem.W.Frag) (mg : MG) (W : Wd) : List D → List V → Prop
  | [], vs => vs = []
  | d :: ds, vs => ∃ v r, vs = v :: r ∧ At K mg W d v ∧ AtB K mg W ds r
def biV : Bi → Value
  | .len => .builtin "len" | .tuple => .type "tuple" | .list => .type "list"
  | .isInt => .builtin "isinstance" | .isBool => .builtin "isinstance" | .isStr => .builtin "isinstance" | .isTuple => .builtin "isinstance" | .isList => .builtin "isinstance"
  | .int => .type "int" | .all => .builtin "all" | .any => .builtin "any" | .sorted => .builtin "sorted" | .abs => .builtin "abs" | .str => .type "str"
  | .dict => .type "dict" | .set => .type "set" | .sum => .builtin "sum" | .min => .builtin "min" | .max => .builtin "max"
  | .listItems => .type "list" | .sortedItems => .builtin "sorted" | .sumValues => .builtin "sum"
def rBi (K : PySem.W.Frag) (mg : MG) (b : Bi) : List V → Hp → VK → Prop := fun xs H Q => ∃ W S ds d, W.H = H ∧ Rep K mg W S ∧ AtB K mg W ds xs ∧ builtin b ds = some d ∧ Then K mg W S d Q
theorem allBl_eq : ∀ {xs : List D} {bs : List Bool} {vs : List V} {W : Wd}, allBl xs = some bs → RepDs X.K mg W xs vs → vs = bs.map V.bl
  | [], bs, vs, W, h, r => by cases r; cases h; rfl
  | x :: xs, bs, vs, W, h, r => by
    cases x with
    | bl b =>
      cases r with
      | cons p r =>
        obtain ⟨bs', e, rfl⟩ := Option.map_eq_some_iff.mp (show (allBl xs).map (b :: ·) = some bs from h)
        rw [p.bl_inv, allBl_eq e r]; rfl
    | _ => cases h
theorem allInt_eq : ∀ {xs : List D} {bs : List Int} {vs : List V} {W : Wd}, allInt xs = some bs → RepDs X.K mg W xs vs → vs = bs.map V.int
  | [], bs, vs, W, h, r => by cases r; cases h; rfl
  | x :: xs, bs, vs, W, h, r => by
    cases x with
    | int b =>
      cases r with
      | cons p r =>
        obtain ⟨bs', e, rfl⟩ := Option.map_eq_some_iff.mp (show (allInt xs).map (b :: ·) = some bs from h)
        rw [p.int_inv, allInt_eq e r]; rfl
    | _ => cases h
/-- a value's built-in type -/
def tyName : D → String
  | .non => "NoneType" | .bl _ => "bool" | .int _ => "int" | .str _ => "str" | .tup _ => "tuple" | .lst _ => "list" | .dct _ => "dict" | .set _ => "set" | _ => ""
theorem at_ty {W : Wd} {d : D} {v : V} (h : At X.K mg W d v) (hs : isScalar d = true) : TyX X.K W.H v (.type (tyName d)) := by
  cases d with
  | non => obtain rfl := h; exact .base .non
  | bl b => obtain rfl := h; exact .base (.bl b)
  | int i => obtain rfl := h; exact .base (.int i)
  | str x => obtain rfl := h; exact .base (.str x)
  | tup xs =>
    obtain ⟨a, vs, rfl, t, _⟩ := h
    rcases t with ⟨t | ⟨o, t⟩, _⟩ | ⟨o, its, n, t, c, _⟩
    · exact .base (.tup t)
    · exact .fTuple t
    · exact .kTuple t c
  | lst xs =>
    obtain ⟨a, vs, rfl, t, _⟩ := h
    rcases t with (t | ⟨o, t⟩) | ⟨o, its, n, t, c, _⟩
    · exact .base (.lst t)
    · exact .base (.frz t)
    · exact .kList t c
  | _ => first | exact h.elim | cases hs
def isNames : List String := ["NoneType", "bool", "int", "str", "tuple", "list"]
theorem kits (T : String) (f : String → Bool) (h : (isNames.all fun n => decide (kitB n T = some (f n))) = true) {W : Wd} {d : D} {v : V} (a : At X.K mg W d v) (hs : isScalar d = true) : PySem.W.kitOne X.K (.type (tyName d)) (.type T) = some (f (tyName d)) := by
  have g : ∀ n ∈ isNames, kitB n T = some (f n) := fun n hn => of_decide_eq_true (List.all_eq_true.mp h n hn)
  refine kit_ty (g _ ?_)
  cases d <;> first | (simp [tyName, isNames]; done) | exact a.elim | cases hs
theorem isi {T : String} (f : String → Bool) (h : (isNames.all fun n => decide (kitB n T = some (f n))) = true) {pins : List (Addr × Obj)} {s : Shared} {σ : L2.St} {W : Wd} {d : D} {v : V} {us : List Value} {Q : VK} (I : Inv X pins σ W.H s)
    (a : At X.K mg W d v) (hs : isScalar d = true) (r : Vals [v, .ty T] us) (q : Q (.bl (f (tyName d))) W.H) : wpAny (model X.prog X.w) X.A (call (.builtin "isinstance") us) (EP X pins σ Q) X.xe s :=
  call_isi pins s σ W.H _ us Q I r ⟨v, .ty T, _, _, _, rfl, .ty T, at_ty a hs, kits T f h a hs, q⟩
def biAll : List Bi := [.len, .tuple, .list, .int, .all, .any, .abs, .str, .sum, .min, .max]
theorem minI_eq : ∀ (ns : List Int) (x m : Int), m ∈ x :: ns → (∀ k ∈ x :: ns, m ≤ k) → ns.foldl (fun m y => if y < m then y else m) x = m
  | [], x, m, h, _ => by rcases List.mem_cons.mp h with rfl | h; rfl; cases h
  | y :: ns, x, m, h, hle => by
    rw [List.foldl_cons]
    refine minI_eq ns _ m ?_ fun k hk => ?_
    · have h1 := hle x List.mem_cons_self
      have h2 := hle y (List.mem_cons_of_mem _ List.mem_cons_self)
      rcases List.mem_cons.mp h with rfl | h
      · rw [if_neg (by omega)]; exact List.mem_cons_self
      · rcases List.mem_cons.mp h with rfl | h
        · by_cases e : m < x
          · rw [if_pos e]; exact List.mem_cons_self
          · rw [if_neg e]; have : m = x := by omega
            rw [this]; exact List.mem_cons_self
        · exact List.mem_cons_of_mem _ h
    · rcases List.mem_cons.mp hk with rfl | hk
      · split
        · exact hle y (List.mem_cons_of_mem _ List.mem_cons_self)
        · exact hle x List.mem_cons_self
      · exact hle k (List.mem_cons_of_mem _ (List.mem_cons_of_mem _ hk))
theorem maxI_eq : ∀ (ns : List Int) (x m : Int), m ∈ x :: ns → (∀ k ∈ x :: ns, k ≤ m) → ns.foldl (fun m y => if y > m then y else m) x = m
  | [], x, m, h, _ => by rcases List.mem_cons.mp h with rfl | h; rfl; cases h
  | y :: ns, x, m, h, hle => by
    rw [List.foldl_cons]
    refine maxI_eq ns _ m ?_ fun k hk => ?_
    · have h1 := hle x List.mem_cons_self
      have h2 := hle y (List.mem_cons_of_mem _ List.mem_cons_self)
      rcases List.mem_cons.mp h with rfl | h
      · rw [if_neg (by omega)]; exact List.mem_cons_self
      · rcases List.mem_cons.mp h with rfl | h
        · by_cases e : m > x
          · rw [if_pos e]; exact List.mem_cons_self
          · rw [if_neg e]; have : m = x := by omega
            rw [this]; exact List.mem_cons_self
        · exact List.mem_cons_of_mem _ h
    · rcases List.mem_cons.mp hk with rfl | hk
      · split
        · exact hle y (List.mem_cons_of_mem _ List.mem_cons_self)
        · exact hle x List.mem_cons_self
      · exact hle k (List.mem_cons_of_mem _ (List.mem_cons_of_mem _ hk))
theorem call_B (b : Bi) (hw : mg.w = X.w) (hc : X.calm = true) (hb : b ∈ biAll) : CallR X (biV b) (rBi X.K mg b) := by
  intro pins s σ H xs us Q I r h
  obtain ⟨W, S, ds, d, rfl, R, h1, e, q⟩ := h
  unfold builtin at e
  split at e
  · obtain ⟨v, _, rfl, ⟨p, vs, rfl, t, k⟩, rfl⟩ := h1; cases e
    exact call_len_seq pins s σ W.H _ us Q I r ⟨p, vs, rfl, .inr t.sq, by rw [← k.length]; exact q.here R (.int _)⟩
  · obtain ⟨v, _, rfl, ⟨p, vs, rfl, t, k⟩, rfl⟩ := h1; cases e
    exact call_len_seq pins s σ W.H _ us Q I r ⟨p, vs, rfl, .inl t, by rw [← k.length]; exact q.here R (.int _)⟩
  · obtain ⟨v, _, rfl, ⟨p, es, ep, rfl, z⟩, rfl⟩ := h1; cases e
    obtain rfl := Vals.ref1 r
    exact dv_len hw I ⟨es, ep, z⟩ fun t t' => ⟨.int _, W.H, I.tok t', ⟨t, rfl⟩, q.here R (.int _)⟩
  · obtain ⟨v, _, rfl, z, rfl⟩ := h1; exact z.elim
  · obtain ⟨v, _, rfl, z, rfl⟩ := h1
    obtain rfl := z
    split at e
    · rename_i hz; cases e
      exact call_len_str pins s σ W.H _ us Q I r ⟨_, rfl, by rw [← line_eq]; exact hz, q.here R (.int _)⟩
    · cases e
  · obtain ⟨v, _, rfl, ⟨p, vs, rfl, t, k⟩, rfl⟩ := h1; cases e
    exact call_tuple_of pins s σ W.H _ us Q I r ⟨p, vs, rfl, .inr ⟨t.sq, q.here R (.tup t k)⟩⟩
  · obtain ⟨v, _, rfl, ⟨p, vs, rfl, t, k⟩, rfl⟩ := h1; cases e
    exact call_tuple_of pins s σ W.H _ us Q I r ⟨p, vs, rfl, .inl ⟨t, fun p hn => q.tup R k p hn⟩⟩
  · obtain ⟨v, _, rfl, ⟨p, vs, rfl, t, k⟩, rfl⟩ := h1; cases e
    exact call_list_of pins s σ W.H _ us Q I r ⟨p, vs, rfl, .inr t.sq, fun p hn => q.lst R k p hn⟩
  · obtain ⟨v, _, rfl, ⟨p, vs, rfl, t, k⟩, rfl⟩ := h1; cases e
    exact call_list_of pins s σ W.H _ us Q I r ⟨p, vs, rfl, .inl t, fun p hn => q.lst R k p hn⟩
  · obtain ⟨v, _, rfl, ⟨p, es, ep, rfl, z⟩, rfl⟩ := h1; cases e
    obtain rfl := Vals.ref1 r
    exact call_list_dct hc I ⟨es, ep, z⟩ fun p ks hn k => q.lst R k p hn
  · obtain ⟨v, _, rfl, ⟨p, es, ep, rfl, z⟩, rfl⟩ := h1; cases e
    obtain rfl := Vals.ref1 r
    exact call_tuple_dct hc I ⟨es, ep, z⟩ fun p ks hn k => q.tup R k p hn
  · simp [biAll] at hb
  · simp [biAll] at hb
  · simp [biAll] at hb
  · simp [biAll] at hb
  · simp [biAll] at hb
  · obtain ⟨v, _, rfl, z, rfl⟩ := h1; obtain rfl := z; cases e
    exact call_int1 pins s σ W.H _ us Q I r (.inl ⟨_, rfl, q.here R (.int _)⟩)
  · obtain ⟨v, _, rfl, z, rfl⟩ := h1; obtain rfl := z; cases e
    exact call_int1 pins s σ W.H _ us Q I r (.inr ⟨_, rfl, q.here R (.int _)⟩)
  · obtain ⟨v, _, rfl, ⟨p, vs, rfl, t, k⟩, rfl⟩ := h1
    obtain ⟨bs, e1, rfl⟩ := Option.map_eq_some_iff.mp e
    exact cr_all hc pins s σ W.H _ us Q I r ⟨p, bs, rfl, by rw [← allBl_eq e1 k]; exact t, q.here R (.bl _)⟩
  · obtain ⟨v, _, rfl, ⟨p, vs, rfl, t, k⟩, rfl⟩ := h1
    obtain ⟨bs, e1, rfl⟩ := Option.map_eq_some_iff.mp e
    exact cr_any hc pins s σ W.H _ us Q I r ⟨p, bs, rfl, by rw [← allBl_eq e1 k]; exact t, q.here R (.bl _)⟩
  · simp [biAll] at hb
  · simp [biAll] at hb
  · simp [biAll] at hb
  · simp [biAll] at hb
  · obtain ⟨v, _, rfl, z, rfl⟩ := h1; obtain rfl := z; cases e
    exact call_abs pins s σ W.H _ us Q I r ⟨_, rfl, q.here R (.int _)⟩
  · obtain ⟨v, _, rfl, z, rfl⟩ := h1; obtain rfl := z; cases e
    exact SkE.call_str_str pins s σ W.H _ us Q I r ⟨_, rfl, q.here R (.str _)⟩
  · obtain ⟨v, _, rfl, z, rfl⟩ := h1; obtain rfl := z
    split at e
    · rename_i hz; cases e
      exact call_str_int pins s σ W.H _ us Q I r ⟨_, rfl, hz, q.here R (.str _)⟩
    · cases e
  · simp [biAll] at hb
  · simp [biAll] at hb
  · obtain ⟨v, _, rfl, ⟨p, vs, rfl, t, k⟩, rfl⟩ := h1
    obtain ⟨bs, e1, rfl⟩ := Option.map_eq_some_iff.mp e
    exact cr_sum hc pins s σ W.H _ us Q I r ⟨p, bs, rfl, by rw [← allInt_eq e1 k]; exact t, q.here R (.int _)⟩
  · obtain ⟨v, _, rfl, ⟨p, vs, rfl, t, k⟩, rfl⟩ := h1
    obtain ⟨m, e2, rfl⟩ := Option.map_eq_some_iff.mp e
    obtain ⟨bs, e1, e2⟩ := Option.bind_eq_some_iff.mp e2
    cases bs with
    | nil => cases e2
    | cons n0 ns =>
      refine cr_min hc pins s σ W.H _ us Q I r ⟨p, n0 :: ns, rfl, by rw [← allInt_eq e1 k]; exact t, by simp, fun m' hm hle => ?_⟩
      have e3 := minI_eq ns n0 m' hm hle
      have e4 : ns.foldl (fun m y => if y < m then y else m) n0 = m := Option.some.inj e2
      rw [← e3, e4]
      exact q.here R (.int _)
  · obtain ⟨v, _, rfl, ⟨p, vs, rfl, t, k⟩, rfl⟩ := h1
    obtain ⟨m, e2, rfl⟩ := Option.map_eq_some_iff.mp e
    obtain ⟨bs, e1, e2⟩ := Option.bind_eq_some_iff.mp e2
    cases bs with
    | nil => cases e2
    | cons n0 ns =>
      refine cr_max hc pins s σ W.H _ us Q I r ⟨p, n0 :: ns, rfl, by rw [← allInt_eq e1 k]; exact t, by simp, fun m' hm hle => ?_⟩
      have e3 := maxI_eq ns n0 m' hm hle
      have e4 : ns.foldl (fun m y => if y > m then y else m) n0 = m := Option.some.inj e2
      rw [← e3, e4]
      exact q.here R (.int _)
  · obtain ⟨v, _, rfl, z, _, v2, rfl, z2, rfl⟩ := h1; obtain rfl := z; obtain rfl := z2; cases e
    exact call_min2 hc pins s σ W.H _ us Q I r ⟨_, _, rfl, q.here R (.int _)⟩
  · obtain ⟨v, _, rfl, z, _, v2, rfl, z2, rfl⟩ := h1; obtain rfl := z; obtain rfl := z2; cases e
    exact call_max2 hc pins s σ W.H _ us Q I r ⟨_, _, rfl, q.here R (.int _)⟩
  all_goals first | (simp [biAll] at hb; done) | cases e
end
end Ly
/-! Ly: what is told of a result; readings. -/
namespace Ly
open PySem PySem.Spec PyProof.Rows L2 PySem.SeqAt

/-- the slots by the trees; own: the slots whose lists the def alone holds -/
structure REnv (K : PySem.W.Frag) (mg : MG) (own : List Nat) (W : Wd) (en : Env) (σ : L2.St) : Prop where
  len : en.length = σ.length
  val : ∀ i d, en[i]? = some (some d) → i ∉ own → ∃ v, σ[i]? = some (some v) ∧ RepD K mg W d v
  mine : ∀ i d, en[i]? = some (some d) → i ∈ own → ∃ a, σ[i]? = some (some (.ref a)) ∧ OwnC K mg W d a ∧ W.F a ∧ a ∉ W.ρ
  apart : ∀ i j d e a b, i ∈ own → j ∈ own → i ≠ j → en[i]? = some (some d) → en[j]? = some (some e) → σ[i]? = some (some (.ref a)) → σ[j]? = some (some (.ref b)) → a ≠ b
section
variable {K : PySem.W.Frag} {mg : MG} {own : List Nat} {W W' : Wd} {en : Env} {σ : L2.St}
theorem REnv.ext (r : REnv K mg own W en σ) (x : Ext W W') (hs : ∀ a ∈ W.ρ, W.F a) : REnv K mg own W' en σ where
  len := r.len
  val := fun i d h n => let ⟨v, h1, h2⟩ := r.val i d h n; ⟨v, h1, h2.ext x hs⟩
  mine := fun i d h n => by
    obtain ⟨a, h1, h2, h3, h4⟩ := r.mine i d h n
    exact ⟨a, h1, h2.ext x hs h4, x.fsub _ h3, h2.notρ x h4⟩
  apart := r.apart
end

/-- an exception by the trees -/
def RepX (K : PySem.W.Frag) (mg : MG) (W : Wd) (c : Str) (fs : List (Str × D)) (cls : Value) (od : Option Addr) : Prop :=
  mg.m c = some cls ∧ match od with
    | none => fs = []
    | some d => ∃ vs, W.H d = some (.xd vs) ∧ vs.map (·.1) = fs.map (·.1) ∧ RepDs K mg W (fs.map (·.2)) (vs.map (·.2))
/-- what is told of a result -/
def Out {α : Type} (K : PySem.W.Frag) (mg : MG) (E : XK) (W : Wd) (r : Re α) (R : α → Sto → Wd → Prop) : Prop :=
  match r with
  | .ok a S => ∀ W', Ext W W' → Rep K mg W' S → R a S W'
  | .exc c fs S => ∀ W' cls od, Ext W W' → Rep K mg W' S → RepX K mg W' c fs cls od → E cls od W'.H
  | .bad => False
section
variable {α β : Type} {K : PySem.W.Frag} {mg : MG} {E : XK} {W W' : Wd} {r : Re α} {f : α → Sto → Re β} {R R' : α → Sto → Wd → Prop} {R2 : β → Sto → Wd → Prop}
theorem Out.mono (h : Out K mg E W r R) (g : ∀ a S W', Ext W W' → Rep K mg W' S → R a S W' → R' a S W') : Out K mg E W r R' := by
  cases r with
  | ok a S => exact fun W' x k => g a S W' x k (h W' x k)
  | exc c fs S => exact h
  | bad => exact h
theorem Out.ext (h : Out K mg E W r R) (x : Ext W W') : Out K mg E W' r R := by
  cases r with
  | ok a S => exact fun W'' y k => h W'' (x.trans y) k
  | exc c fs S => exact fun W'' cls od y k q => h W'' cls od (x.trans y) k q
  | bad => exact h
theorem Out.bind (h : Out K mg E W (r.bind f) R2) : Out K mg E W r fun a S W' => Out K mg E W' (f a S) R2 := by
  cases r with
  | ok a S => exact fun W' x k => Out.ext (r := f a S) h x
  | exc c fs S => exact h
  | bad => exact h
theorem Out.lift {o : Option α} {S : Sto} (h : Out K mg E W (lift o S) R) : ∃ a, o = some a ∧ ∀ W', Ext W W' → Rep K mg W' S → R a S W' := by
  cases o with
  | none => exact h.elim
  | some a => exact ⟨a, rfl, h⟩
end
def RepM (b : Bool) (K : PySem.W.Frag) (mg : MG) (W : Wd) (d : D) (v : V) : Prop := if b = true then RepB K mg W d v else RepD K mg W d v
theorem RepM.b {b : Bool} {K : PySem.W.Frag} {mg : MG} {W : Wd} {d : D} {v : V} (h : RepM b K mg W d v) : RepB K mg W d v := by
  cases b with
  | true => exact h
  | false => exact RepB.of h
theorem RepM.of {b : Bool} {K : PySem.W.Frag} {mg : MG} {W : Wd} {d : D} {v : V} (h : RepD K mg W d v) : RepM b K mg W d v := by
  cases b with
  | true => exact RepB.of h
  | false => exact h
def RepMs (b : Bool) (K : PySem.W.Frag) (mg : MG) (W : Wd) (d : List D) (v : List V) : Prop := if b = true then RepBs K mg W d v else RepDs K mg W d v

section
variable (K : PySem.W.Frag) (mg : MG) (E : XK) (own : List Nat) (cf : CF)
/-- where the readings begin -/
def From (σ : L2.St) (H : Hp) (φ : Wd → Sto → Env → Prop) : Prop := ∃ W S en, W.H = H ∧ Rep K mg W S ∧ REnv K mg own W en σ ∧ φ W S en
def tE (b : Bool) (ir : Ex) : TE := fun σ H Q => From K mg own σ H fun W S en => Out K mg E W (evE cf ir en S) fun d _ W' => ∀ v, RepM b K mg W' d v → Q v W'.H
def tEs (b : Bool) (irs : List Ex) : TA := fun σ H Q => From K mg own σ H fun W S en => Out K mg E W (evEs cf irs en S) fun ds _ W' => ∀ vs, RepMs b K mg W' ds vs → Q vs W'.H
def tT (ir : Ex) : TT := fun σ H Q => From K mg own σ H fun W S en => Out K mg E W (evE cf ir en S) fun d _ W' => ∃ c, d = .bl c ∧ Q c W'.H
def tOI (o : Option Ex) : TO := fun σ H Q => From K mg own σ H fun W S en => Out K mg E W (evO cf o en S) fun d _ W' => Q d W'.H
def tCd (o : Option Ex) : TT := fun σ H Q => From K mg own σ H fun W S en => Out K mg E W (evC cf o en S) fun c _ W' => Q c W'.H
end

/-! ### weakening -/
section
variable {X : Cx} {e : Expr} {es : List Expr} {st : Stmt} {sts : List Stmt}
theorem pe_imp {t t' : TE} (h : PE X e t) (i : ∀ σ H Q, t' σ H Q → t σ H Q) : PE X e t' := ⟨fun pins s σ H Q I q => h.run pins s σ H Q I (i σ H Q q)⟩
theorem pt_imp {t t' : TT} (h : PT X e t) (i : ∀ σ H Q, t' σ H Q → t σ H Q) : PT X e t' := ⟨fun pins s σ H Q I q => h.run pins s σ H Q I (i σ H Q q)⟩
theorem pw_imp {t t' : TT} (h : PW X e t) (i : ∀ σ H Q, t' σ H Q → t σ H Q) : PW X e t' := ⟨fun wh pins s σ H Q I q => h.run wh pins s σ H Q I (i σ H Q q)⟩
theorem pa_imp {t t' : TA} (h : PA X es t) (i : ∀ σ H Q, t' σ H Q → t σ H Q) : PA X es t' := ⟨fun pos pins s σ H Q I q => h.run pos pins s σ H Q I (i σ H Q q)⟩
theorem ps_imp {t t' : TS} (h : PS X st t) (i : ∀ D σ H, t' D σ H → t D σ H) : PS X st t' := ⟨fun pins s σ H D I q => h.run pins s σ H D I (i D σ H q)⟩
theorem pss_imp {t t' : TS} (h : PSs X sts t) (i : ∀ D σ H, t' D σ H → t D σ H) : PSs X sts t' := ⟨fun pins s σ H D I q => h.run pins s σ H D I (i D σ H q)⟩
theorem pc_imp {op : CmpOp} {a b : Expr} {t t' : TE} (h : PC X op a b t) (i : ∀ σ H Q, t' σ H Q → t σ H Q) : PC X op a b t' := ⟨fun pins s σ H Q I q => h.run pins s σ H Q I (i σ H Q q)⟩
end

/-! ### the readings one in another -/
section
variable {K : PySem.W.Frag} {mg : MG} {E : XK} {own : List Nat} {cf : CF} {σ : L2.St} {H : Hp}
/-- a part's reading, from what is told of the whole -/
theorem tE_of {b : Bool} {ir : Ex} {W : Wd} {S : Sto} {en : Env} {Q : VK} (R : Rep K mg W S) (r : REnv K mg own W en σ)
    (h : Out K mg E W (evE cf ir en S) fun d S' W' => ∀ v, RepM b K mg W' d v → REnv K mg own W' en σ → Rep K mg W' S' → Q v W'.H) : tE K mg E own cf b ir σ W.H Q :=
  ⟨W, S, en, rfl, R, r, h.mono fun d S' W' x k q v hv => q v hv (r.ext x R.sub) k⟩
theorem tE_imp {b : Bool} {ir : Ex} {Q Q' : VK} (h : tE K mg E own cf b ir σ H Q) (i : ∀ v H', Q v H' → Q' v H') : tE K mg E own cf b ir σ H Q' := by
  obtain ⟨W, S, en, e, R, r, q⟩ := h
  exact ⟨W, S, en, e, R, r, q.mono fun d S' W' _ _ q v hv => i _ _ (q v hv)⟩
/-- what may be borrowed may be had -/
theorem tE_b {b : Bool} {ir : Ex} {Q : VK} (h : tE K mg E own cf true ir σ H Q) : tE K mg E own cf b ir σ H Q := by
  obtain ⟨W, S, en, e, R, r, q⟩ := h
  exact ⟨W, S, en, e, R, r, q.mono fun d S' W' _ _ q v hv => q v hv.b⟩
/-- a test from a value -/
theorem tT_B {b : Bool} {ir : Ex} {Q : Bool → Hp → Prop} (h : tT K mg E own cf ir σ H Q) : tB (tE K mg E own cf b ir) σ H Q := by
  obtain ⟨W, S, en, e, R, r, q⟩ := h
  refine ⟨W, S, en, e, R, r, q.mono fun d S' W' _ _ q v hv => ?_⟩
  obtain ⟨c, rfl, q⟩ := q
  exact ⟨c, hv.b.bl_inv, q⟩
theorem pt_of {X : Cx} {e : Expr} {b : Bool} {ir : Ex} (h : PE X e (tE K mg E own cf b ir)) (he : ∀ whole, isTrue e X.env whole = (do let v ← whole; standAt e.pos; holding [v] (truthy v))) : PT X e (tT K mg E own cf ir) :=
  pt_imp (pt_val h he) fun _ _ _ q => tT_B q

/-- two values, one behind the other, by an operation -/
theorem tE_two {b1 b2 b3 : Bool} {a b ir : Ex} {r : R2} {Q : VK} {f : D → D → Sto → Re D}
    (ev : ∀ en S, evE cf ir en S = (evE cf a en S).bind fun x S => (evE cf b en S).bind fun y S => f x y S)
    (op : ∀ W S x y v u, Rep K mg W S → RepM b1 K mg W x v → RepM b2 K mg W y u → Out K mg E W (f x y S) (fun d _ W' => ∀ v, RepM b3 K mg W' d v → Q v W'.H) → r v u W.H Q)
    (h : tE K mg E own cf b3 ir σ H Q) : tOp r (tE K mg E own cf b1 a) (tE K mg E own cf b2 b) σ H Q := by
  obtain ⟨W, S, en, rfl, R, rr, q⟩ := h
  rw [ev] at q
  refine tE_of R rr (q.bind.mono fun x S1 W1 x1 R1 q1 v hv rr1 _ => ?_)
  refine tE_of R1 rr1 (q1.bind.mono fun y S2 W2 x2 R2 q2 u hu rr2 _ => ?_)
  refine op W2 S2 x y v u R2 ?_ hu q2
  cases b1 with
  | true => exact RepB.ext x2 R1.sub hv
  | false => exact RepD.ext x2 R1.sub hv
end
end Ly
/-! Ly: from the text's trees to the evaluator's terms. -/
namespace Ly
open PySem PySem.Spec PyProof.Rows L2 PySem.SeqAt

/-- the module: its defs, its constants, the built-in names that nobody takes -/
structure Glob where
  fns : List Str
  consts : List (Str × D)
  free : List Str
/-- a block's scope; which of its cells are its own -/
structure Bl where
  sc : Scope
  fo : Str → Bool
def vis (sc : Scope) (x : Str) : Bool := match sc.names.lookup x with
  | some .local => true | some .cell => true | some .free => true | _ => false
def loc (b : Bl) (x : Str) : Bool := match b.sc.names.lookup x with
  | some .local => true | some .cell => b.fo x | _ => false
def gl (sc : Scope) (x : Str) : Bool := match sc.names.lookup x with
  | some .globalImplicit => true | _ => false
def plainName (x : Str) : Bool := !(x == ("__debug__" : Str)) && !(x == ("__classdict__" : Str)) && !(x == ("__name__" : Str))
def slot (N : List Str) (x : Str) : Option Nat := N.findIdx? fun y => decide (y = x)
def bopOf : Operator → Option Bop
  | .Add => some .add | .Sub => some .sub | .Mult => some .mul | .FloorDiv => some .fdiv | .Mod => some .mod | .Pow => some .pow | _ => none
def copOf : CmpOp → Option Cop
  | .Eq => some .eq | .NotEq => some .ne | .Lt => some .lt | .LtE => some .le | .Gt => some .gt | .GtE => some .ge | .Is => some .is_ | .IsNot => some .isnot | .In => some .in_ | .NotIn => some .notin
def biOf (x : Str) : Option Bi :=
  if x = ("len" : Str) then some .len else if x = ("tuple" : Str) then some .tuple else if x = ("list" : Str) then some .list else if x = ("int" : Str) then some .int
  else if x = ("all" : Str) then some .all else if x = ("any" : Str) then some .any else if x = ("abs" : Str) then some .abs else if x = ("str" : Str) then some .str
  else if x = ("sum" : Str) then some .sum else if x = ("min" : Str) then some .min else if x = ("max" : Str) then some .max else none
def isOf (x : Str) : Option Bi :=
  if x = ("int" : Str) then some .isInt else if x = ("bool" : Str) then some .isBool else if x = ("str" : Str) then some .isStr else if x = ("tuple" : Str) then some .isTuple
  else if x = ("list" : Str) then some .isList else none
def meOf (x : Str) : Option Me := if x = ("index" : Str) then some .index else none
def oneLine (a c : Pos) : Bool := a.endLine == c.line
/-- targets -/
def cG (N : List Str) (own : List Nat) (b : Bl) : Nat → Expr → Option Tg
  | 0, _ => none
  | n + 1, .Name x _ => if loc b x then (slot N x).bind fun i => if i ∈ own then none else some (.nm i) else none
  | n + 1, .Tuple es _ _ => (es.mapM (cG N own b n)).map .tup
  | _ + 1, _ => none
mutual
def Tg.slots : Tg → List Nat
  | .nm i => [i]
  | .tup ts => Tg.slotss ts
def Tg.slotss : List Tg → List Nat
  | [] => []
  | t :: ts => Tg.slots t ++ Tg.slotss ts
end
def notCall : Expr → Bool
  | .Call .. => false
  | _ => true
def isTup : Expr → Bool
  | .Tuple _ _ _ => true
  | _ => false
/-- the own names of a comprehension's block, with their places -/
def ownOf (N : List Str) (scope : Scope) : List (Str × Nat) := scope.names.filterMap fun p => match p.2 with
  | .local => (slot N p.1).map fun i => (p.1, i)
  | .cell => (slot N p.1).map fun i => (p.1, i)
  | _ => none
def ownIx (N : List Str) (scope : Scope) : List Nat := (ownOf N scope).map (·.2)
section
variable (G : Glob) (N : List Str) (own : List Nat)
/-- what is walked; tt: the target is a tuple -/
def cI (cE : Bool → Bl → Expr → Option Ex) (ob tt : Bool) (b : Bl) : Expr → Option (Ik × List Ex)
  | .Call (.Name x p) args [] pos =>
    if gl b.sc x && plainName x && decide (x ∈ G.free) && decide (x = ("range" : Str)) then
      match args with
      | [a] => (cE false b a).map fun a => (.range, [a])
      | [a, c] => (cE false b a).bind fun a => (cE false b c).map fun c => (.range, [a, c])
      | [a, c, d] => (cE false b a).bind fun a => (cE false b c).bind fun c => (cE false b d).map fun d => (.range, [a, c, d])
      | _ => none
    else if gl b.sc x && plainName x && decide (x ∈ G.free) && decide (x = ("zip" : Str)) && tt then
      match args with
      | [a, c] => (cE ob b a).bind fun a => (cE ob b c).map fun c => (.zip, [a, c])
      | _ => none
    else if gl b.sc x && plainName x && decide (x ∈ G.free) && decide (x = ("enumerate" : Str)) && tt then
      match args with
      | [a] => (cE ob b a).map fun a => (.enum, [a])
      | _ => none
    else (cE ob b (.Call (.Name x p) args [] pos)).map fun a => (.ex, [a])
  | .Call (.Attribute o m apos) [] [] pos =>
    if decide (m = ("items" : Str)) && tt && oneLine apos pos && notCall o then (cE ob b o).map fun a => (.items, [a])
    else if decide (m = ("values" : Str)) && oneLine apos pos && notCall o then (cE ob b o).map fun a => (.values, [a])
    else (cE ob b (.Call (.Attribute o m apos) [] [] pos)).map fun a => (.ex, [a])
  | .Set _ _ _ => none
  | e => (cE ob b e).map fun a => (.ex, [a])
def cArgs (cE : Expr → Option Ex) : List Expr → Option (List Ex)
  | [] => some []
  | e :: es => (cE e).bind fun a => (cArgs cE es).map fun r => a :: r
/-- and, or -/
def cBool (cE : Expr → Option Ex) (op : BoolOp) : List Expr → Option Ex
  | [] => none
  | [e] => cE e
  | e :: es => (cE e).bind fun a => (cBool cE op es).map fun r => match op with
    | .And => .and_ a r
    | .Or => .or_ a r
/-- expressions; ob: whether a list of the def's own may be borrowed -/
def cE : Nat → Bool → Bl → Expr → Option Ex
  | 0, _, _, _ => none
  | n + 1, ob, b, e => match e with
    | .Constant (.int i) _ _ => some (.cst (.int i))
    | .Constant (.bool i) _ _ => some (.cst (.bl i))
    | .Constant (.str i) _ _ => some (.cst (.str i))
    | .Constant .none _ _ => some (.cst .non)
    | .Name x _ => if plainName x then
        if vis b.sc x then (slot N x).bind fun i => if i ∈ own then (if ob then some (.loc i) else none) else some (.loc i)
        else if gl b.sc x then (match G.consts.lookup x with
          | some d => some (.cst d)
          | none => if x ∈ G.fns then some (.cst (.fn x)) else none)
        else none
      else none
    | .BinOp l op r _ => (bopOf op).bind fun o => (cE n true b l).bind fun a => (cE n true b r).map fun c => .bin o a c
    | .UnaryOp .USub a _ => (cE n false b a).map .neg
    | .UnaryOp .Not a _ => (cE n false b a).map .not_
    | .Compare l [op] [r] _ => if behindInMarks op r then none else (copOf op).bind fun o => (cE n true b l).bind fun a => (cE n true b r).map fun c => .cmp o a c
    | .Compare l [op, op'] [r, r'] _ => if behindInMarks op' r' then none else (copOf op).bind fun o => (copOf op').bind fun o' => (cE n true b l).bind fun a => (cE n true b r).bind fun c => (cE n true b r').map fun d => .chain o o' a c d
    | .BoolOp op vs _ => cBool (cE n false b) op vs
    | .IfExp c x y _ => (cE n false b c).bind fun c => (cE n false b x).bind fun x => (cE n false b y).map fun y => .ite c x y
    | .Tuple es _ _ => (cArgs (cE n false b) es).map .tup
    | .List es _ => (cArgs (cE n false b) es).map .lst
    | .Call (.Name x _) args [] _ => if gl b.sc x && plainName x then
        if x ∈ G.fns then (cArgs (cE n false b) args).map (.call x)
        else if x ∈ G.free then
          if x = ("isinstance" : Str) then (match args with
            | [a, .Name t _] => if gl b.sc t && plainName t && decide (t ∈ G.free) then (isOf t).bind fun i => (cE n true b a).map fun a => .bi i [a] else none
            | _ => none)
          else (match args with
            | [] => none
            | a :: as => (biOf x).bind fun i => (cArgs (cE n true b) (a :: as)).map (.bi i))
        else none
      else none
    | .Call (.Attribute o m apos) [a] [] pos => if oneLine apos pos && notCall o then (meOf m).bind fun m => (cE n true b o).bind fun o => (cE n false b a).map fun a => .me m o [a] else none
    | .Subscript a (.Slice lo hi none _) _ => (cE n true b a).bind fun a =>
        (match lo with | none => some none | some e => (cE n false b e).map some).bind fun lo =>
        (match hi with | none => some none | some e => (cE n false b e).map some).map fun hi => .slc a lo hi
    | .Subscript a i _ => (cE n true b a).bind fun a => (cE n false b i).map fun i => .idx a i
    | .ListComp elt [⟨tg, iter, ifs, 0⟩] scope _ =>
        let own' := ownOf N scope
        let b' : Bl := ⟨relS scope b.sc, fun x => scope.names.lookup x == some .cell⟩
        if blkC N b.sc scope own' then
          (cG N own b' 20 tg).bind fun t => if t.slots.all fun i => decide (i ∈ ownIx N scope) then
            (cI G (cE n) true (isTup tg) b iter).bind fun it =>
            (match ifs with | [] => some none | [c] => (cE n false b' c).map some | _ => none).bind fun c =>
            (cE n false b' elt).map fun e => .comp (ownIx N scope) t it.1 it.2 c e
          else none
        else none
    | _ => none
end

/-! ### statements, defs, the module -/
section
variable (G : Glob) (N : List Str) (own : List Nat) (mkr : Bool)
/-- local names of a def, each once, on one line -/
def parNames (b : Bl) : List Expr → Option (List (Str × Nat × Pos))
  | [] => some []
  | .Name x p :: r => if b.sc.names.lookup x == some .local then (slot N x).bind fun i => (parNames b r).map fun l => (x, i, p) :: l else none
  | _ => none
def samePlace (l : List (Str × Nat × Pos)) : Bool := match l with
  | [] => false
  | p :: r => r.all fun q => q.2.2.line == p.2.2.line
def nodupB (l : List Nat) : Bool := match l with
  | [] => true
  | x :: r => decide (x ∉ r) && nodupB r
def nodupS (l : List Str) : Bool := match l with
  | [] => true
  | x :: r => decide (x ∉ r) && nodupS r
def noStarB : Expr → Bool
  | .Starred _ _ => false
  | _ => true
def isListE : Expr → Bool
  | .List _ _ => true
  | _ => false
def isComp : Expr → Bool
  | .ListComp _ _ _ _ => true
  | .SetComp _ _ _ _ => true
  | .DictComp _ _ _ _ _ => true
  | _ => false
/-- what a def gives back: an own thing, too -/
def cR : Nat → Bl → Expr → Option Ex
  | 0, _, _ => none
  | n + 1, b, e => match e with
    | .Name x _ => (match slot N x with
      | some i => if i ∈ own then (if plainName x && vis b.sc x then some (.loc i) else none) else cE G N own 60 false b e
      | none => cE G N own 60 false b e)
    | .IfExp c x y _ => (cE G N own 60 false b c).bind fun c => (cR n b x).bind fun x => (cR n b y).map fun y => .ite c x y
    | e => cE G N own 60 false b e
/-- what makes something new -/
def cN (b : Bl) (e : Expr) : Option Ex := match e with
  | .List es _ => (cArgs (cE G N own 59 false b) es).map .lst
  | .Dict [] [] _ => some (.cst (.dct []))
  | _ => none
/-- values for targets, some of them own -/
def cPar (b : Bl) : List (Str × Nat × Pos) → List Expr → Option (List Ex)
  | [], [] => some []
  | p :: ps, e :: es => (if p.2.1 ∈ own then cN G N own b e else cE G N own 59 false b e).bind fun a => (cPar b ps es).map fun r => a :: r
  | _, _ => none
/-- names of a def, each once -/
def anyNames (b : Bl) : List Expr → Option (List (Str × Nat × Pos))
  | [] => some []
  | .Name x p :: r => if loc b x then (slot N x).bind fun i => (anyNames b r).map fun l => (x, i, p) :: l else none
  | _ => none
/-- not all are locals of one line: no stores are swapped -/
def swapsN (b : Bl) (ts : List Expr) : Bool :=
  let line := (ts.head?.map (·.pos.line)).getD 0
  let names := ts.filterMap fun
    | .Name id pos => if b.sc.names.lookup id == some .local && pos.line == line then some id else none
    | _ => none
  names.length != ts.length
/-- a tuple of values for a tuple of targets -/
def cAny (b : Bl) (ts vs : List Expr) (gen : Option St) : Option St := match anyNames N b ts with
  | some l => if l.length = vs.length && nodupB (l.map fun p => p.2.1) && vs.all noStarB && decide (0 < vs.length) then
      (cPar G N own b l vs).map fun irs => .asg (.tup ((l.map fun p => p.2.1).map .nm)) (.tup irs) else none
  | none => gen
def cS : Nat → Bl → Stmt → Option St
  | 0, _, _ => none
  | n + 1, b, st => match st with
    | .Assign [.Name x p] e pos => if loc b x then (slot N x).bind fun i =>
        if i ∈ own then (if isComp e then none else (cN G N own b e).map (.asg (.nm i)))
        else match e with
          | .ListComp elt [⟨tg, iter, ifs, 0⟩] scope cpos =>
            if b.sc.names.lookup x == some .local && (p.line == cpos.line) && !(scope.names.any fun (n, k) => n == x && (k == .local || k == .cell)) then (cE G N own 60 false b e).map (.asg (.nm i)) else none
          | _ => if isComp e then none else (cE G N own 60 false b e).map (.asg (.nm i))
      else none
    | .Assign [.Tuple ts k tp] e pos => match e with
      | .Tuple vs _ _ =>
        if vs.length = 2 || vs.length = 3 then
          if vs.all (foldedForSure 8) then
            (cG N own b 20 (.Tuple ts k tp)).bind fun t => (cE G N own 60 false b e).map (.asg t)
          else if swapsN b ts then cAny G N own b ts vs ((cG N own b 20 (.Tuple ts k tp)).bind fun t => (cE G N own 60 false b e).map (.asg t))
          else if vs.all (constantsAlone 8) then none
          else (parNames N b ts).bind fun l => if l.length = vs.length && samePlace l && nodupB (l.map fun p => p.2.1) && vs.all noStarB then
            (cPar G N own b l vs).map fun irs => .asg (.tup ((l.map fun p => p.2.1).map .nm)) (.tup irs) else none
        else cAny G N own b ts vs ((cG N own b 20 (.Tuple ts k tp)).bind fun t => (cE G N own 60 false b e).map (.asg t))
      | _ => if isComp e then none else (cG N own b 20 (.Tuple ts k tp)).bind fun t => (cE G N own 60 false b e).map (.asg t)
    | .Assign [.Subscript o i _] v _ => match i with
      | .Slice _ _ _ _ => none
      | _ => if isComp v then none else (cE G N own 60 false b v).bind fun v => (cE G N own 60 false b o).bind fun o => (cE G N own 60 false b i).map fun i => .setR o i v
    | .Expr (.Call (.Attribute (.Name x p) m apos) [a] [] cpos) pos =>
      if m = ("append" : Str) && oneLine apos cpos then (slot N x).bind fun i => if vis b.sc x && plainName x && decide (i ∈ own) then (cE G N own 60 false b a).map (.app i) else none
      else none
    | .Expr e _ => match e with
      | .Call (.Name _ _) _ _ _ => (cE G N own 60 false b e).map .ex
      | _ => none
    | .Return (some e) _ => match e with
      | .List es _ => if mkr then (cArgs (cE G N own 60 false b) es).map fun l => .ret (.new l) else (cE G N own 60 false b e).map .ret
      | e => (cR G N own 20 b e).map .ret
    | .Return none _ => some .retN
    | .If c x y _ => (cE G N own 60 false b c).bind fun c => (cArgsS (cS n b) x).bind fun x => (cArgsS (cS n b) y).map fun y => .ite c x y
    | .For tg iter body [] _ => (cG N own b 20 tg).bind fun t => (cI G (cE G N own 60) false (isTup tg) b iter).bind fun it => (cArgsS (cS n b) body).map fun body => .for_ t it.1 it.2 body
    | .While c body [] _ => (cE G N own 60 false b c).bind fun c => (cArgsS (cS n b) body).map fun body => .while_ c body
    | .Raise _ _ _ => some .never
    | .Pass _ => some .pass
    | .Break _ => some .brk
    | .Continue _ => some .cnt
    | _ => none
where
  cArgsS (c : Stmt → Option St) : List Stmt → Option (List St)
    | [] => some []
    | s :: r => (c s).bind fun a => (cArgsS c r).map fun l => a :: l
end
/-- a def by its place, its slots' names, its own lists' slots -/
structure Item where
  name : Str
  at_ : Nat
  ps : List Str
  N : List Str
  own : List Nat
  mkr : Bool
def kindFn (sc : Scope) : Bool := (match sc.kind with | .function => true | _ => false) && !sc.isGenerator && !sc.isCoroutine
def scopeOk (N ps : List Str) (sc : Scope) : Bool :=
  kindFn sc && nodupS N && decide (N.take ps.length = ps) && (ps.all fun x => match sc.names.lookup x with | some .local => true | some .cell => true | _ => false) &&
    sc.names.all fun y => match y.2 with | .free => false | _ => true
def argNames : Arguments → Option (List Str)
  | ⟨[], as, none, [], [], none, []⟩ => some (as.map (·.arg))
  | _ => none
def cF (G : Glob) (it : Item) (st : Stmt) : Option Fn := match st with
  | .FunctionDef name args body [] none [] scope none bind _ =>
    if decide (name = it.name) && decide (bind = it.name) && scopeOk it.N it.ps scope && decide (argNames args = some it.ps) && it.own.all (fun i => decide (it.ps.length ≤ i)) then
      (cS.cArgsS (cS G it.N it.own it.mkr 30 ⟨scope, fun _ => true⟩) body).map fun b => ⟨it.ps.length, it.N.length, b⟩
    else none
  | _ => none
def mkProg (G : Glob) (body : List Stmt) : List Item → Option Prog
  | [] => some []
  | it :: r => (body[it.at_]?).bind fun st => (cF G it st).bind fun f => (mkProg G body r).map fun P => (it.name, f) :: P
end Ly
/-! Ly: the evaluator's terms tell what the text's trees do: expressions. -/
namespace Ly
open PySem PySem.Spec PyProof.Rows L2 PySem.SeqAt

/-- a call of a def, by the evaluator -/
def spF (K : PySem.W.Frag) (mg : MG) (P : Prog) (k : Nat) (x : Str) : Sp := fun vs H Q E =>
  ∃ W S ds, W.H = H ∧ Rep K mg W S ∧ RepDs K mg W ds vs ∧ Out K mg E W (callP P k x ds S) fun d _ W' => ∀ v, RepD K mg W' d v → Q v W'.H
/-- where an expression stands -/
structure Good (CXx : CXT) (G : Glob) (P : Prog) (k : Nat) (N : List Str) (E : XK) (b : Bl) (X : Cx) : Prop where
  calm : X.calm = true
  hN : X.N = N
  nd : N.Nodup
  sc : X.env.scope = b.sc
  fo : ∀ x, b.fo x = true → X.fn x = true
  room : Room (k + 1) X.A
  pass : Passes CXx X E
  e0 : ∀ outer H s e s', ¬ CXx outer H s E0 e s'
  consts : ∀ x d, G.consts.lookup x = some d → ∃ v u, X.mg x = some u ∧ RelV v u ∧ ∀ W : Wd, RepD X.K X.mgw W d v
  free : ∀ x, x ∈ G.free → X.mg x = none
  fns : ∀ x, x ∈ G.fns → ∃ f fd ps, X.mg x = some (.ref f) ∧ PySem.W.keepIn X.K (.ref f) = true ∧ Binds X.K fd ps [] ∧
    FnOk X.prog X.w X.K X.mg X.base CXx (k + 1) f fd ps (spF X.K X.mgw P k x)
section
variable {CXx : CXT} {G : Glob} {P : Prog} {k : Nat} {N : List Str} {E : XK} {b : Bl} {X : Cx}
theorem slot_get {x : Str} {i : Nat} (h : slot N x = some i) : N[i]? = some x := by
  unfold slot at h
  obtain ⟨hi, h1, _⟩ := List.findIdx?_eq_some_iff_getElem.mp h
  rw [List.getElem?_eq_getElem hi]
  simpa using h1
theorem Good.hu (g : Good CXx G P k N E b X) : X.A.units + 64 < cLine := by have := g.room.un; omega
theorem Good.gl (g : Good CXx G P k N E b X) {x : Str} (h : gl b.sc x = true) : Gl X x := by
  show X.env.scope.names.lookup x = _
  rw [g.sc]
  unfold Ly.gl at h
  split at h
  · assumption
  · cases h
theorem Good.vis (g : Good CXx G P k N E b X) {x : Str} (h : vis b.sc x = true) : Vis X.env.scope x := by
  rw [g.sc]
  unfold Ly.vis at h
  split at h
  · exact .inl (by assumption)
  · exact .inr (.inl (by assumption))
  · exact .inr (.inr (by assumption))
  · cases h
theorem Good.loc (g : Good CXx G P k N E b X) {x : Str} (h : loc b x = true) : Loc X.env.scope x ∧ (X.fn x = true ∨ X.env.scope.names.lookup x = some .local) := by
  rw [g.sc]
  unfold Ly.loc at h
  split at h
  · rename_i e
    exact ⟨.inl e, .inr e⟩
  · rename_i e
    exact ⟨.inr e, .inl (g.fo x h)⟩
  · cases h
theorem plain_inv {x : Str} (h : plainName x = true) : (x == ("__debug__" : Str)) = false ∧ (x == ("__classdict__" : Str)) = false ∧ x ≠ "__name__" := by
  unfold plainName at h
  simp only [Bool.and_eq_true, Bool.not_eq_true'] at h
  exact ⟨h.1.1, h.1.2, fun e => by have := h.2; rw [e] at this; simp at this⟩
theorem bind_some {α β : Type} {o : Option α} {f : α → Option β} {y : β} (h : o.bind f = some y) : ∃ x, o = some x ∧ f x = some y := Option.bind_eq_some_iff.mp h
theorem map_some {α β : Type} {o : Option α} {f : α → β} {y : β} (h : o.map f = some y) : ∃ x, o = some x ∧ f x = y := Option.map_eq_some_iff.mp h
theorem bopOf_eq {op : Operator} {o : Bop} (h : bopOf op = some o) : op = bopO o := by cases op <;> first | (cases h; rfl) | cases h
theorem copOf_eq {op : CmpOp} {o : Cop} (h : copOf op = some o) : op = copO o := by cases op <;> (cases h; rfl)

/-! ### what does not begin with a star -/
def noStar : Expr → Bool
  | .Starred _ _ => false
  | _ => true
theorem star_cons {e : Expr} {es : List Expr} {env : PySem.Env} (h : noStar e = true) : starEach (e :: es) env = (false, eval e env) :: starEach es env := by
  cases e <;> first | rfl | cases h
theorem star_any {pos : Pos} {env : PySem.Env} : ∀ {es : List Expr}, (∀ e ∈ es, noStar e = true) → (backTo pos (starEach es env)).any (·.1) = false
  | [], _ => rfl
  | e :: es, h => by
    rw [star_cons (h e List.mem_cons_self)]
    show (false || (backTo pos (starEach es env)).any (·.1)) = false
    rw [star_any fun x hx => h x (List.mem_cons_of_mem _ hx)]; rfl
theorem cE_star {own : List Nat} {n : Nat} {ob : Bool} {e : Expr} {ir : Ex} (h : cE G N own n ob b e = some ir) : noStar e = true := by
  cases n with
  | zero => cases h
  | succ n => cases e <;> first | rfl | cases h

/-! ### the parts -/
section
variable {own : List Nat} {n : Nat}
/-- what the evaluator tells of an expression holds of it -/
def Snd (own : List Nat) (P : Prog) (k : Nat) (E : XK) (X : Cx) (ob : Bool) (e : Expr) (ir : Ex) : Prop :=
  PE X e (tE X.K X.mgw E own (callP P k) ob ir) ∧ PT X e (tT X.K X.mgw E own (callP P k) ir)
variable {ob : Bool} {e : Expr} {ir : Ex}
theorem Snd.mk' (h : PE X e (tE X.K X.mgw E own (callP P k) ob ir)) (he : ∀ whole, isTrue e X.env whole = (do let v ← whole; standAt e.pos; holding [v] (truthy v))) : Snd own P k E X ob e ir := ⟨h, pt_of h he⟩
theorem tE_cst {K : PySem.W.Frag} {mg : MG} {cf : CF} {d : D} {v : V} {σ : L2.St} {H : Hp} {Q : VK} (h : tE K mg E own cf ob (.cst d) σ H Q) (r : ∀ W : Wd, RepD K mg W d v) : Q v H := by
  obtain ⟨W, S, en, rfl, R, rr, q⟩ := h
  exact q W (Ext.refl W) R v (RepM.of (r W))
theorem snd_const (c : PySem.Const) (d : D) (v : V) {j : Nat} {pos : Pos} (h : PE X (.Constant c j pos) (tC v)) (r : ∀ W : Wd, RepD X.K X.mgw W d v) : Snd own P k E X ob (.Constant c j pos) (.cst d) :=
  .mk' (pe_imp h fun σ H Q q => tE_cst q r) fun _ => rfl
theorem snd_slot (g : Good CXx G P k N E b X) {x : Str} {pos : Pos} {i : Nat} (hp : plainName x = true) (hv : Ly.vis b.sc x = true) (hi : slot N x = some i) (ho : i ∈ own → ob = true) : Snd own P k E X ob (.Name x pos) (.loc i) := by
  obtain ⟨p1, p2, p3⟩ := plain_inv hp
  refine .mk' (pe_imp (pe_var (by rw [g.hN]; exact slot_get hi) (g.vis hv) p1 p2) fun σ H Q q => ?_) fun _ => rfl
  obtain ⟨W, S, en, rfl, R, rr, q⟩ := q
  rw [evE] at q
  split at q
  · rename_i d hd
    have q := q W (Ext.refl W) R
    by_cases hm : i ∈ own
    · obtain ⟨a, h1, h2, h3, h4⟩ := rr.mine i d hd hm
      cases ho hm
      exact ⟨.ref a, h1, q _ (RepB.own h2 h4)⟩
    · obtain ⟨v, h1, h2⟩ := rr.val i d hd hm
      exact ⟨v, h1, q v (RepM.of h2)⟩
  · exact q.elim
theorem snd_glob (g : Good CXx G P k N E b X) {x : Str} {pos : Pos} {d : D} (hp : plainName x = true) (hg : Ly.gl b.sc x = true) (hc : G.consts.lookup x = some d) : Snd own P k E X ob (.Name x pos) (.cst d) := by
  obtain ⟨v, u, h1, h2, h3⟩ := g.consts x d hc
  exact .mk' (pe_imp (pe_glob (g.gl hg) h1 h2 (plain_inv hp).1) fun σ H Q q => tE_cst q h3) fun _ => rfl
theorem snd_fn (g : Good CXx G P k N E b X) {x : Str} {pos : Pos} (hp : plainName x = true) (hg : Ly.gl b.sc x = true) (hf : x ∈ G.fns) : Snd own P k E X ob (.Name x pos) (.cst (.fn x)) := by
  obtain ⟨f, fd, ps, h1, _⟩ := g.fns x hf
  exact .mk' (pe_imp (pe_glob (v := .ref f) (g.gl hg) h1 rfl (plain_inv hp).1) fun σ H Q q => tE_cst q fun W => .fn h1) fun _ => rfl
theorem then_of {K : PySem.W.Frag} {mg : MG} {W : Wd} {S : Sto} {d : D} {Q : VK} (h : ∀ W', Ext W W' → Rep K mg W' S → ∀ v, RepM ob K mg W' d v → Q v W'.H) : Then K mg W S d Q :=
  fun W' v x R r => h W' x R v (RepM.of r)
theorem snd_bin (g : Good CXx G P k N E b X) {l r : Expr} {o : Bop} {a c : Ex} {pos : Pos} (h1 : Snd own P k E X true l a) (h2 : Snd own P k E X true r c) : Snd own P k E X ob (.BinOp l (bopO o) r pos) (.bin o a c) := by
  refine .mk' (pe_imp (pe_op (op_bin o X.mgw) h1.1 h2.1) fun σ H Q q => tE_two (fun en S => by rw [evE]) (fun W S x y v u R rx ry q => ?_) q) fun _ => rfl
  obtain ⟨d, e, q⟩ := q.lift
  exact ⟨W, S, _, _, d, rfl, R, view_at R rx, view_at R ry, e, then_of q⟩
theorem snd_neg (g : Good CXx G P k N E b X) {e : Expr} {a : Ex} {pos : Pos} (h : Snd own P k E X false e a) : Snd own P k E X ob (.UnaryOp .USub e pos) (.neg a) := by
  refine .mk' (pe_imp (pe_un un_neg h.1) fun σ H Q q => ?_) fun _ => rfl
  obtain ⟨W, S, en, rfl, R, rr, q⟩ := q
  rw [evE] at q
  refine tE_of R rr (q.bind.mono fun x S1 W1 x1 R1 q1 v hv rr1 _ => ?_)
  split at q1
  · rename_i i
    exact ⟨i, hv.b.int_inv, q1 W1 (Ext.refl W1) R1 _ (RepM.of (.int _))⟩
  · exact q1.elim
theorem snd_not (g : Good CXx G P k N E b X) {e : Expr} {a : Ex} {pos : Pos} (h : Snd own P k E X false e a) : Snd own P k E X ob (.UnaryOp .Not e pos) (.not_ a) := by
  refine ⟨pe_imp (pe_not h.1) fun σ H Q q => ?_, pt_imp (pt_not h.2) fun σ H Q q => ?_⟩
  · obtain ⟨W, S, en, rfl, R, rr, q⟩ := q
    rw [evE] at q
    refine tE_of R rr (q.bind.mono fun x S1 W1 x1 R1 q1 v hv rr1 _ => ?_)
    split at q1
    · rename_i i
      exact ⟨i, hv.b.bl_inv, q1 W1 (Ext.refl W1) R1 _ (RepM.of (.bl _))⟩
    · exact q1.elim
  · obtain ⟨W, S, en, rfl, R, rr, q⟩ := q
    rw [evE] at q
    refine ⟨W, S, en, rfl, R, rr, q.bind.mono fun x S1 W1 x1 R1 q1 => ?_⟩
    split at q1
    · rename_i i
      obtain ⟨c, e, q⟩ := q1 W1 (Ext.refl W1) R1
      cases e
      exact ⟨i, rfl, q⟩
    · exact q1.elim
theorem snd_cmp (g : Good CXx G P k N E b X) {l r : Expr} {o : Cop} {a c : Ex} {pos : Pos} (hm : behindInMarks (copO o) r = false) (h1 : Snd own P k E X true l a) (h2 : Snd own P k E X true r c) : Snd own P k E X ob (.Compare l [copO o] [r] pos) (.cmp o a c) := by
  have op : ∀ (Q : VK) (W : Wd) (S : Sto) (x y : D) (v u : V), Rep X.K X.mgw W S → RepM true X.K X.mgw W x v → RepM true X.K X.mgw W y u → Out X.K X.mgw E W (lift ((cmpop o (view S x) (view S y)).map D.bl) S) (fun d _ W' => ∀ v, RepM ob X.K X.mgw W' d v → Q v W'.H) → rCmp X.K X.mgw o v u W.H Q := fun Q W S x y v u R rx ry q => by
    obtain ⟨d, e, q⟩ := q.lift
    obtain ⟨c, e2, rfl⟩ := map_some e
    exact ⟨W, _, _, c, rfl, view_at R rx, view_at R ry, e2, q W (Ext.refl W) R _ (RepM.of (.bl c))⟩
  refine ⟨pe_imp (pe_cmpR (op_cmp o X.mgw rfl g.hu) h1.1 h2.1 hm) fun σ H Q q => tE_two (fun en S => by rw [evE]) (op Q) q,
    pt_imp (pt_cmpR (op_cmp o X.mgw rfl g.hu) h1.1 h2.1 hm) fun σ H Q q => tE_two (b3 := ob) (fun en S => by rw [evE]) (op fun x H' => ∃ k, x = V.bl k ∧ Q k H') (tT_B q)⟩
theorem snd_chain (g : Good CXx G P k N E b X) {l r s : Expr} {o o' : Cop} {a c d : Ex} {pos : Pos} (hm : behindInMarks (copO o') s = false) (h1 : Snd own P k E X true l a) (h2 : Snd own P k E X true r c) (h3 : Snd own P k E X true s d) :
    Snd own P k E X ob (.Compare l [copO o, copO o'] [r, s] pos) (.chain o o' a c d) := by
  have key : ∀ {σ : L2.St} {H : Hp} {Q : VK}, tE X.K X.mgw E own (callP P k) ob (.chain o o' a c d) σ H Q → tChain (rCmp X.K X.mgw o) (rCmp X.K X.mgw o') (tE X.K X.mgw E own (callP P k) true a) (tE X.K X.mgw E own (callP P k) true c) (tE X.K X.mgw E own (callP P k) true d) σ H Q := fun {σ H Q} q => by
    obtain ⟨W, S, en, rfl, R, rr, q⟩ := q
    rw [evE] at q
    refine tE_of R rr (q.bind.mono fun x S1 W1 x1 R1 q1 v hv rr1 _ => ?_)
    refine tE_of R1 rr1 (q1.bind.mono fun y S2 W2 x2 R2 q2 u hu rr2 _ => ?_)
    split at q2
    · rename_i e
      refine ⟨W2, _, _, true, rfl, view_at R2 (RepB.ext x2 R1.sub hv), view_at R2 hu, e, true, rfl, ?_⟩
      refine iteT ?_
      refine tE_of R2 rr2 (q2.bind.mono fun z S3 W3 x3 R3 q3 w hw rr3 _ => ?_)
      obtain ⟨d, e, q⟩ := q3.lift
      obtain ⟨c, e2, rfl⟩ := map_some e
      exact ⟨W3, _, _, c, rfl, view_at R3 (RepB.ext x3 R2.sub hu), view_at R3 hw, e2, q W3 (Ext.refl W3) R3 _ (RepM.of (.bl c))⟩
    · rename_i e
      refine ⟨W2, _, _, false, rfl, view_at R2 (RepB.ext x2 R1.sub hv), view_at R2 hu, e, false, rfl, ?_⟩
      refine iteF ?_
      exact q2 W2 (Ext.refl W2) R2 _ (RepM.of (.bl false))
    · exact q2.elim
  have hl : lastMarks [copO o, copO o'] [r, s] = false := hm
  exact ⟨pe_imp (pe_chain (op_cmp o X.mgw rfl g.hu) (op_cmp o' X.mgw rfl g.hu) h1.1 h2.1 h3.1 hl) fun σ H Q q => key q,
    pt_imp (pt_chain (op_cmp o X.mgw rfl g.hu) (op_cmp o' X.mgw rfl g.hu) h1.1 h2.1 h3.1 hl) fun σ H Q q => key (tT_B q)⟩
theorem snd_ite (g : Good CXx G P k N E b X) {c x y : Expr} {ic ix iy : Ex} {pos : Pos} (h1 : Snd own P k E X false c ic) (h2 : Snd own P k E X false x ix) (h3 : Snd own P k E X false y iy) : Snd own P k E X ob (.IfExp c x y pos) (.ite ic ix iy) := by
  constructor
  · refine pe_imp (pe_ifExp h1.2 h2.1 h3.1) fun σ H Q q => ?_
    obtain ⟨W, S, en, rfl, R, rr, q⟩ := q
    rw [evE] at q
    refine ⟨W, S, en, rfl, R, rr, q.bind.mono fun d S1 W1 x1 R1 q1 => ?_⟩
    have rr1 := rr.ext x1 R.sub
    split at q1
    · exact ⟨true, rfl, iteT <| tE_of R1 rr1 (q1.mono fun d S2 W2 _ _ q v hv _ _ => q v (RepM.of hv))⟩
    · exact ⟨false, rfl, iteF <| tE_of R1 rr1 (q1.mono fun d S2 W2 _ _ q v hv _ _ => q v (RepM.of hv))⟩
    · exact q1.elim
  · refine ⟨fun pins s σ H Q I q => ?_⟩
    obtain ⟨W, S, en, rfl, R, rr, q⟩ := q
    rw [evE] at q
    refine isTrue_IfExp (thn (h1.2.run pins s σ W.H (fun c H1 => if c = true then tT X.K X.mgw E own (callP P k) ix σ H1 Q else tT X.K X.mgw E own (callP P k) iy σ H1 Q) I ⟨W, S, en, rfl, R, rr, q.bind.mono fun d S1 W1 x1 R1 q1 => ?_⟩) fun d s1 ⟨H1, I1, q1⟩ => ?_)
    · have rr1 := rr.ext x1 R.sub
      split at q1
      · exact ⟨true, rfl, iteT <| ⟨W1, S1, en, rfl, R1, rr1, q1⟩⟩
      · exact ⟨false, rfl, iteF <| ⟨W1, S1, en, rfl, R1, rr1, q1⟩⟩
      · exact q1.elim
    · cases d with
      | true => exact h2.2.run pins s1 σ H1 Q I1 q1
      | false => exact h3.2.run pins s1 σ H1 Q I1 q1
/-! and, or -/
theorem snd_bool (g : Good CXx G P k N E b X) {op : BoolOp} {cE' : Expr → Option Ex} (ih : ∀ ob e ir, cE' e = some ir → Snd own P k E X ob e ir) : ∀ (vs : List Expr) (ir : Ex) (pos : Pos), cBool cE' op vs = some ir →
    PE X (.BoolOp op vs pos) (tE X.K X.mgw E own (callP P k) ob ir) ∧ PW X (.BoolOp op vs pos) (tT X.K X.mgw E own (callP P k) ir)
  | [], _, _, h => by cases h
  | [e], ir, pos, h => by
    have s := ih ob e ir h
    cases op with
    | And => exact ⟨pe_one s.1, pw_and1 s.2⟩
    | Or => exact ⟨pe_one s.1, pw_or1 s.2⟩
  | e :: e2 :: es, ir, pos, h => by
    obtain ⟨a, h1, h⟩ := bind_some h
    obtain ⟨r, h2, h⟩ := map_some h
    have s := ih false e a h1
    have s2 := snd_bool g ih (e2 :: es) r pos h2
    cases op with
    | And =>
      subst h
      refine ⟨pe_imp (pe_and s.1 s2.1) fun σ H Q q => ?_, pw_imp (pw_and s.2 s2.2) fun σ H Q q => ?_⟩
      · obtain ⟨W, S, en, rfl, R, rr, q⟩ := q
        rw [evE] at q
        refine tE_of R rr (q.bind.mono fun x S1 W1 x1 R1 q1 v hv rr1 _ => ?_)
        split at q1
        · exact ⟨true, hv.b.bl_inv, iteT <| ⟨W1, S1, en, rfl, R1, rr1, q1⟩⟩
        · exact ⟨false, hv.b.bl_inv, iteF <| q1 W1 (Ext.refl W1) R1 _ (RepM.of (.bl false))⟩
        · exact q1.elim
      · obtain ⟨W, S, en, rfl, R, rr, q⟩ := q
        rw [evE] at q
        refine ⟨W, S, en, rfl, R, rr, q.bind.mono fun x S1 W1 x1 R1 q1 => ?_⟩
        have rr1 := rr.ext x1 R.sub
        split at q1
        · exact ⟨true, rfl, iteT <| ⟨W1, S1, en, rfl, R1, rr1, q1⟩⟩
        · obtain ⟨c, e, q⟩ := q1 W1 (Ext.refl W1) R1
          cases e
          exact ⟨false, rfl, iteF <| q⟩
        · exact q1.elim
    | Or =>
      subst h
      refine ⟨pe_imp (pe_or s.1 s2.1) fun σ H Q q => ?_, pw_imp (pw_or s.2 s2.2) fun σ H Q q => ?_⟩
      · obtain ⟨W, S, en, rfl, R, rr, q⟩ := q
        rw [evE] at q
        refine tE_of R rr (q.bind.mono fun x S1 W1 x1 R1 q1 v hv rr1 _ => ?_)
        split at q1
        · exact ⟨true, hv.b.bl_inv, iteT <| q1 W1 (Ext.refl W1) R1 _ (RepM.of (.bl true))⟩
        · exact ⟨false, hv.b.bl_inv, iteF <| ⟨W1, S1, en, rfl, R1, rr1, q1⟩⟩
        · exact q1.elim
      · obtain ⟨W, S, en, rfl, R, rr, q⟩ := q
        rw [evE] at q
        refine ⟨W, S, en, rfl, R, rr, q.bind.mono fun x S1 W1 x1 R1 q1 => ?_⟩
        have rr1 := rr.ext x1 R.sub
        split at q1
        · obtain ⟨c, e, q⟩ := q1 W1 (Ext.refl W1) R1
          cases e
          exact ⟨true, rfl, iteT <| q⟩
        · exact ⟨false, rfl, iteF <| ⟨W1, S1, en, rfl, R1, rr1, q1⟩⟩
        · exact q1.elim
/-! arguments -/
theorem snd_args (g : Good CXx G P k N E b X) {ob' : Bool} {cE' : Expr → Option Ex} (st : ∀ e ir, cE' e = some ir → noStar e = true) (ih : ∀ e ir, cE' e = some ir → Snd own P k E X ob' e ir) : ∀ (es : List Expr) (irs : List Ex), cArgs cE' es = some irs →
    PA X es (tEs X.K X.mgw E own (callP P k) ob' irs) ∧ ∀ e ∈ es, noStar e = true
  | [], irs, h => by
    cases h
    refine ⟨pa_imp pa_nil fun σ H Q q => ?_, fun e h => by cases h⟩
    obtain ⟨W, S, en, rfl, R, rr, q⟩ := q
    rw [evEs] at q
    refine q W (Ext.refl W) R [] ?_
    unfold RepMs
    split
    · exact .nil
    · exact .nil
  | e :: es, irs, h => by
    obtain ⟨a, h1, h⟩ := bind_some h
    obtain ⟨r, h2, h⟩ := map_some h
    subst h
    have s := ih e a h1
    have ns := st e a h1
    obtain ⟨s2, n2⟩ := snd_args g st ih es r h2
    refine ⟨pa_imp (pa_cons s.1 s2 (star_cons ns)) fun σ H Q q => ?_, fun x hx => (List.mem_cons.mp hx).elim (fun z => by rw [z]; exact ns) (n2 x)⟩
    obtain ⟨W, S, en, rfl, R, rr, q⟩ := q
    rw [evEs] at q
    refine tE_of R rr (q.bind.mono fun x S1 W1 x1 R1 q1 v hv rr1 _ => ?_)
    refine ⟨W1, S1, en, rfl, R1, rr1, q1.bind.mono fun ds S2 W2 x2 R2 q2 vs hvs => q2 W2 (Ext.refl W2) R2 (v :: vs) ?_⟩
    unfold RepM at hv
    unfold RepMs at hvs ⊢
    split
    · rename_i hb
      rw [if_pos hb] at hv hvs
      exact .cons (hv.ext x2 R1.sub) hvs
    · rename_i hb
      rw [if_neg hb] at hv hvs
      exact .cons (hv.ext x2 R1.sub) hvs
theorem snd_tup (g : Good CXx G P k N E b X) {es : List Expr} {irs : List Ex} {j : Nat} {pos : Pos} (h : PA X es (tEs X.K X.mgw E own (callP P k) false irs)) : Snd own P k E X ob (.Tuple es j pos) (.tup irs) := by
  refine .mk' (pe_imp (pe_tup h) fun σ H Q q => ?_) fun _ => rfl
  obtain ⟨W, S, en, rfl, R, rr, q⟩ := q
  rw [evE] at q
  refine ⟨W, S, en, rfl, R, rr, q.bind.mono fun ds S1 W1 x1 R1 q1 vs hvs => ?_⟩
  have hvs : RepDs X.K X.mgw W1 ds vs := hvs
  split at q1
  · rename_i hz
    refine ⟨by rw [← hvs.length, ← line_eq]; exact hz, fun p hn => ?_⟩
    exact Then.tup (fun W' v x R' r => q1 W' x R' v (RepM.of r)) R1 hvs p hn
  · exact q1.elim
theorem snd_lst (g : Good CXx G P k N E b X) {es : List Expr} {irs : List Ex} {pos : Pos} (h : PA X es (tEs X.K X.mgw E own (callP P k) false irs)) : Snd own P k E X ob (.List es pos) (.lst irs) := by
  refine .mk' (pe_imp (pe_lst h) fun σ H Q q => ?_) fun _ => rfl
  obtain ⟨W, S, en, rfl, R, rr, q⟩ := q
  rw [evE] at q
  refine ⟨W, S, en, rfl, R, rr, q.bind.mono fun ds S1 W1 x1 R1 q1 vs hvs => ?_⟩
  have hvs : RepDs X.K X.mgw W1 ds vs := hvs
  split at q1
  · rename_i hz
    refine ⟨by rw [← hvs.length, ← line_eq]; exact hz, fun p hn => ?_⟩
    exact Then.lst (fun W' v x R' r => q1 W' x R' v (RepM.of r)) R1 hvs p hn
  · exact q1.elim
theorem snd_call (g : Good CXx G P k N E b X) {x : Str} {es : List Expr} {irs : List Ex} {p pos : Pos} (hg : Ly.gl b.sc x = true) (hp : plainName x = true) (hf : x ∈ G.fns) (h : PA X es (tEs X.K X.mgw E own (callP P k) false irs)) (ns : ∀ e ∈ es, noStar e = true) (hl : es = [] → irs = []) :
    Snd own P k E X ob (.Call (.Name x p) es [] pos) (.call x irs) := by
  obtain ⟨f, fd, ps, m1, m2, m3, F⟩ := g.fns x hf
  have key : ∀ {σ : L2.St} {H : Hp} {Q : VK}, tE X.K X.mgw E own (callP P k) ob (.call x irs) σ H Q → tCall (spF X.K X.mgw P k x) [] E (tEs X.K X.mgw E own (callP P k) false irs) σ H Q := fun {σ H Q} q => by
    obtain ⟨W, S, en, rfl, R, rr, q⟩ := q
    rw [evE] at q
    refine ⟨W, S, en, rfl, R, rr, q.bind.mono fun ds S1 W1 x1 R1 q1 vs hvs => ?_⟩
    show spF X.K X.mgw P k x (vs ++ []) W1.H Q E
    rw [List.append_nil]
    exact ⟨W1, S1, ds, rfl, R1, hvs, q1.mono fun d S2 W2 _ _ q v hv => q v (RepM.of hv)⟩
  refine .mk' ?_ fun _ => rfl
  cases es with
  | nil =>
    refine pe_imp (pe_call0 F g.room (g.gl hg) m1 m2 m3 .nil g.pass (plain_inv hp).1) fun σ H Q q => ?_
    have e : irs = [] := hl rfl
    subst e
    obtain ⟨W, S, en, rfl, R, rr, q⟩ := key q
    rw [evEs] at q
    exact q W (Ext.refl W) R [] .nil
  | cons e es =>
    exact pe_imp (pe_call F g.room (g.gl hg) m1 m2 m3 .nil g.pass h (plain_inv hp).1 (star_cons (ns e List.mem_cons_self)) (star_any fun y hy => ns y (List.mem_cons_of_mem _ hy))) fun σ H Q q => key q
theorem cArgs_nil {cE' : Expr → Option Ex} {es : List Expr} {irs : List Ex} (h : cArgs cE' es = some irs) : es = [] → irs = [] := by
  rintro rfl
  cases h
  rfl
/-! built-in functions -/
def bootOf (x : Str) (f : Value) : Prop := bootBuiltins x = some f
theorem biOf_boot {x : Str} {i : Bi} (h : biOf x = some i) : bootBuiltins x = some (biV i) ∧ i ∈ biAll := by
  unfold biOf at h
  repeat (split at h; (· rename_i e; cases h; subst e; exact ⟨by decide +kernel, by decide⟩))
  cases h
theorem isOf_boot {x : Str} {i : Bi} (h : isOf x = some i) : ∃ T, bootBuiltins x = some (.type T) ∧ ((i = .isInt ∧ T = "int") ∨ (i = .isBool ∧ T = "bool") ∨ (i = .isStr ∧ T = "str") ∨ (i = .isTuple ∧ T = "tuple") ∨ (i = .isList ∧ T = "list")) := by
  unfold isOf at h
  split at h
  · rename_i e; cases h; subst e; exact ⟨"int", by decide +kernel, .inl ⟨rfl, rfl⟩⟩
  split at h
  · rename_i e; cases h; subst e; exact ⟨"bool", by decide +kernel, .inr (.inl ⟨rfl, rfl⟩)⟩
  split at h
  · rename_i e; cases h; subst e; exact ⟨"str", by decide +kernel, .inr (.inr (.inl ⟨rfl, rfl⟩))⟩
  split at h
  · rename_i e; cases h; subst e; exact ⟨"tuple", by decide +kernel, .inr (.inr (.inr (.inl ⟨rfl, rfl⟩)))⟩
  split at h
  · rename_i e; cases h; subst e; exact ⟨"list", by decide +kernel, .inr (.inr (.inr (.inr ⟨rfl, rfl⟩)))⟩
  cases h
theorem atB_of {K : PySem.W.Frag} {mg : MG} {W : Wd} {S : Sto} (R : Rep K mg W S) : ∀ {ds : List D} {vs : List V}, RepBs K mg W ds vs → AtB K mg W (ds.map (view S)) vs
  | _, _, .nil => rfl
  | _, _, .cons h r => ⟨_, _, rfl, view_at R h, atB_of R r⟩
theorem snd_bi (g : Good CXx G P k N E b X) {x : Str} {e : Expr} {es : List Expr} {irs : List Ex} {p pos : Pos} {i : Bi} (hg : Ly.gl b.sc x = true) (hp : plainName x = true) (hf : x ∈ G.free) (hb : biOf x = some i)
    (h : PA X (e :: es) (tEs X.K X.mgw E own (callP P k) true irs)) (ns : ∀ y ∈ e :: es, noStar y = true) : Snd own P k E X ob (.Call (.Name x p) (e :: es) [] pos) (.bi i irs) := by
  obtain ⟨b1, b2⟩ := biOf_boot hb
  have cb := call_B (X := X) (mg := X.mgw) i rfl g.calm b2
  refine .mk' ⟨fun pins s σ H Q I q => ?_⟩ fun _ => rfl
  obtain ⟨W, S, en, rfl, R, rr, q⟩ := q
  rw [evE] at q
  have key : tCB (rBi X.K X.mgw i) (tEs X.K X.mgw E own (callP P k) true irs) σ W.H Q := by
    refine ⟨W, S, en, rfl, R, rr, q.bind.mono fun ds S1 W1 x1 R1 q1 vs hvs => ?_⟩
    obtain ⟨d, e, q⟩ := q1.lift
    exact ⟨W1, S1, _, d, rfl, R1, atB_of R1 hvs, e, then_of q⟩
  obtain ⟨p1, p2, p3⟩ := plain_inv hp
  have m := g.free x hf
  have hs := star_cons (es := es) (env := X.env) (ns e List.mem_cons_self)
  have ha := star_any (pos := pos) (env := X.env) fun y hy => ns y (List.mem_cons_of_mem _ hy)
  refine wpAny_Call_Name_kw (ld_blt I (g.gl hg) m b1 ?_ p3 p1)
  simp only [biAll, List.mem_cons, List.not_mem_nil, or_false] at b2
  rcases b2 with rfl | rfl | rfl | rfl | rfl | rfl | rfl | rfl | rfl | rfl | rfl
  · exact PyProof.Rows.callWith_builtin1 (thn (h.run pos pins s σ W.H _ I key) fun us s1 ⟨vs, H1, I1, r1, q1⟩ => cb pins s1 σ H1 vs us Q I1 r1 q1) hs ha
  · exact PyProof.Rows.callWith_type1 (thn (h.run pos pins s σ W.H _ I key) fun us s1 ⟨vs, H1, I1, r1, q1⟩ => cb pins s1 σ H1 vs us Q I1 r1 q1) hs ha
  · exact PyProof.Rows.callWith_type1 (thn (h.run pos pins s σ W.H _ I key) fun us s1 ⟨vs, H1, I1, r1, q1⟩ => cb pins s1 σ H1 vs us Q I1 r1 q1) hs ha
  · exact PyProof.Rows.callWith_type1 (thn (h.run pos pins s σ W.H _ I key) fun us s1 ⟨vs, H1, I1, r1, q1⟩ => cb pins s1 σ H1 vs us Q I1 r1 q1) hs ha
  · exact PyProof.Rows.callWith_builtin1 (thn (h.run pos pins s σ W.H _ I key) fun us s1 ⟨vs, H1, I1, r1, q1⟩ => cb pins s1 σ H1 vs us Q I1 r1 q1) hs ha
  · exact PyProof.Rows.callWith_builtin1 (thn (h.run pos pins s σ W.H _ I key) fun us s1 ⟨vs, H1, I1, r1, q1⟩ => cb pins s1 σ H1 vs us Q I1 r1 q1) hs ha
  · exact PyProof.Rows.callWith_builtin1 (thn (h.run pos pins s σ W.H _ I key) fun us s1 ⟨vs, H1, I1, r1, q1⟩ => cb pins s1 σ H1 vs us Q I1 r1 q1) hs ha
  · exact PyProof.Rows.callWith_type1 (thn (h.run pos pins s σ W.H _ I key) fun us s1 ⟨vs, H1, I1, r1, q1⟩ => cb pins s1 σ H1 vs us Q I1 r1 q1) hs ha
  · exact PyProof.Rows.callWith_builtin1 (thn (h.run pos pins s σ W.H _ I key) fun us s1 ⟨vs, H1, I1, r1, q1⟩ => cb pins s1 σ H1 vs us Q I1 r1 q1) hs ha
  · exact PyProof.Rows.callWith_builtin1 (thn (h.run pos pins s σ W.H _ I key) fun us s1 ⟨vs, H1, I1, r1, q1⟩ => cb pins s1 σ H1 vs us Q I1 r1 q1) hs ha
  · exact PyProof.Rows.callWith_builtin1 (thn (h.run pos pins s σ W.H _ I key) fun us s1 ⟨vs, H1, I1, r1, q1⟩ => cb pins s1 σ H1 vs us Q I1 r1 q1) hs ha
theorem snd_isi (g : Good CXx G P k N E b X) {t : Str} {e : Expr} {a : Ex} {p p2 pos : Pos} {i : Bi} (hg : Ly.gl b.sc ("isinstance" : Str) = true) (hf : ("isinstance" : Str) ∈ G.free)
    (hg2 : Ly.gl b.sc t = true) (hp2 : plainName t = true) (hf2 : t ∈ G.free) (hb : isOf t = some i) (h : Snd own P k E X true e a) (ns : noStar e = true) : Snd own P k E X ob (.Call (.Name "isinstance" p) [e, .Name t p2] [] pos) (.bi i [a]) := by
  obtain ⟨T, b1, b2⟩ := isOf_boot hb
  obtain ⟨p1, _, p3⟩ := plain_inv hp2
  have pt : PE X (.Name t p2) (tC (.ty T)) := pe_bltn (g.gl hg2) (g.free t hf2) b1 rfl p3 p1
  have pa : PA X [e, .Name t p2] (tCons (tE X.K X.mgw E own (callP P k) true a) (tCons (tC (.ty T)) tNil)) := pa_cons h.1 (pa_cons pt pa_nil rfl) (star_cons ns)
  refine .mk' ⟨fun pins s σ H Q I q => ?_⟩ fun _ => rfl
  obtain ⟨W, S, en, rfl, R, rr, q⟩ := q
  rw [evE, evEs] at q
  have key : tCons (tE X.K X.mgw E own (callP P k) true a) (tCons (tC (.ty T)) tNil) σ W.H fun xs H1 => ∃ v W1 d, xs = [v, .ty T] ∧ W1.H = H1 ∧ At X.K X.mgw W1 d v ∧ isScalar d = true ∧ ∃ r, builtin i [d] = some r ∧ ∀ v, (∀ W', RepD X.K X.mgw W' r v) → Q v H1 := by
    have q := q.bind
    refine tE_of R rr (q.bind.mono fun d S1 W1 x1 R1 q1 v hv rr1 _ => ?_)
    rw [evEs] at q1
    obtain ⟨r, e, q3⟩ := Out.lift (q1 W1 (Ext.refl W1) R1)
    have hd : ∀ d : D, builtin i [d] = some r → isScalar d = true := fun d e => by
      rcases b2 with ⟨rfl, _⟩ | ⟨rfl, _⟩ | ⟨rfl, _⟩ | ⟨rfl, _⟩ | ⟨rfl, _⟩ <;> cases d <;> first | rfl | cases e
    exact ⟨v, W1, view S1 d, rfl, rfl, view_at R1 hv, hd _ e, r, e, fun v hr => q3 W1 (Ext.refl W1) R1 v (RepM.of (hr W1))⟩
  refine wpAny_Call_Name_kw (ld_blt I (g.gl hg) (g.free _ hf) (u := .builtin "isinstance") (by decide +kernel) ?_ (by decide) (by decide))
  refine PyProof.Rows.callWith_builtin1 (thn (pa.run pos pins s σ W.H _ I key) fun us s1 ⟨vs, H1, I1, r1, q1⟩ => ?_) (star_cons ns) rfl
  obtain ⟨v, W1, d, rfl, rfl, hv, hd, r, e, q2⟩ := q1
  rcases b2 with ⟨rfl, rfl⟩ | ⟨rfl, rfl⟩ | ⟨rfl, rfl⟩ | ⟨rfl, rfl⟩ | ⟨rfl, rfl⟩
  · have e1 : r = .bl ((fun n => n == "int" || n == "bool") (tyName d)) := by
      cases d <;> first | (cases e; rfl) | cases hd
    exact isi (fun n => n == "int" || n == "bool") (by decide +kernel) I1 hv hd r1 (q2 _ fun W' => by rw [e1]; exact .bl _)
  · have e1 : r = .bl ((fun n => n == "bool") (tyName d)) := by
      cases d <;> first | (cases e; rfl) | cases hd
    exact isi (fun n => n == "bool") (by decide +kernel) I1 hv hd r1 (q2 _ fun W' => by rw [e1]; exact .bl _)
  · have e1 : r = .bl ((fun n => n == "str") (tyName d)) := by
      cases d <;> first | (cases e; rfl) | cases hd
    exact isi (fun n => n == "str") (by decide +kernel) I1 hv hd r1 (q2 _ fun W' => by rw [e1]; exact .bl _)
  · have e1 : r = .bl ((fun n => n == "tuple") (tyName d)) := by
      cases d <;> first | (cases e; rfl) | cases hd
    exact isi (fun n => n == "tuple") (by decide +kernel) I1 hv hd r1 (q2 _ fun W' => by rw [e1]; exact .bl _)
  · have e1 : r = .bl ((fun n => n == "list") (tyName d)) := by
      cases d <;> first | (cases e; rfl) | cases hd
    exact isi (fun n => n == "list") (by decide +kernel) I1 hv hd r1 (q2 _ fun W' => by rw [e1]; exact .bl _)
/-! places, slices -/
theorem snd_idx (g : Good CXx G P k N E b X) {l r : Expr} {a c : Ex} {pos : Pos} (hs : PlainIx r) (h1 : Snd own P k E X true l a) (h2 : Snd own P k E X false r c) : Snd own P k E X ob (.Subscript l r pos) (.idx a c) := by
  refine .mk' (pe_imp (pe_ix (ix_D (mg := X.mgw) rfl g.hu) h1.1 h2.1 hs) fun σ H Q q => tE_two (fun en S => by rw [evE]) (fun W S x y v u R rx ry q => ?_) q) fun _ => rfl
  obtain ⟨d, e, q⟩ := q.lift
  exact ⟨W, S, _, _, d, rfl, R, view_at R rx, RepD.at' ry, e, then_of q⟩
theorem snd_part (g : Good CXx G P k N E b X) {e : Option Expr} {o : Option Ex} (h : (e = none ∧ o = none) ∨ ∃ x a, e = some x ∧ o = some a ∧ Snd own P k E X false x a) : PO X e (tOI X.K X.mgw E own (callP P k) o) := by
  rcases h with ⟨rfl, rfl⟩ | ⟨x, a, rfl, rfl, h⟩
  · refine ⟨fun pins s σ H Q I q => po_none.run pins s σ H Q I ?_⟩
    obtain ⟨W, S, en, rfl, R, rr, q⟩ := q
    rw [evO] at q
    exact q W (Ext.refl W) R
  · refine ⟨fun pins s σ H Q I q => (po_some h.1).run pins s σ H Q I ?_⟩
    obtain ⟨W, S, en, rfl, R, rr, q⟩ := q
    rw [evO] at q
    refine tE_of R rr (q.bind.mono fun d S1 W1 x1 R1 q1 v hv rr1 _ => ?_)
    split at q1
    · rename_i i
      exact ⟨i, hv.b.int_inv, q1 W1 (Ext.refl W1) R1⟩
    · exact q1.elim
theorem snd_slc (g : Good CXx G P k N E b X) {l : Expr} {lo hi : Option Expr} {a : Ex} {ol oh : Option Ex} {pos p2 : Pos} (h1 : Snd own P k E X true l a)
    (h2 : (lo = none ∧ ol = none) ∨ ∃ x a, lo = some x ∧ ol = some a ∧ Snd own P k E X false x a) (h3 : (hi = none ∧ oh = none) ∨ ∃ x a, hi = some x ∧ oh = some a ∧ Snd own P k E X false x a) :
    Snd own P k E X ob (.Subscript l (.Slice lo hi none p2) pos) (.slc a ol oh) := by
  have sl := sl_D (X := X) (mg := X.mgw)
  refine .mk' ⟨fun pins s σ H Q I q => (pe_slice sl h1.1 (snd_part g h2) (snd_part g h3)).run pins s σ H Q I ?_⟩ fun _ => rfl
  obtain ⟨W, S, en, rfl, R, rr, q⟩ := q
  rw [evE] at q
  refine tE_of R rr (q.bind.mono fun x S1 W1 x1 R1 q1 v hv rr1 _ => ?_)
  refine ⟨W1, S1, en, rfl, R1, rr1, q1.bind.mono fun y S2 W2 x2 R2 q2 => ?_⟩
  refine ⟨W2, S2, en, rfl, R2, rr1.ext x2 R1.sub, q2.bind.mono fun z S3 W3 x3 R3 q3 => ?_⟩
  obtain ⟨d, e, q⟩ := q3.lift
  exact ⟨W3, S3, _, d, rfl, R3, view_at R3 (RepB.ext (x2.trans x3) R1.sub hv), e, then_of q⟩
end
end
end Ly
/-! Ly: methods of built-in types. -/
namespace Ly
open PySem PySem.Spec PyProof.Rows L2 PySem.SeqAt

/-- o.m(..), the receiver's type told when it is there -/
def tMe (X : Cx) (name : Str) (to : TE) (t : TA) : TE := fun σ H Q => to σ H fun x H1 => ∃ (T id : String) (r : V → List V → Hp → VK → Prop), PlainAttrs T ∧ Slot T name id ∧ typeOf (.builtin id) = pure (.type "method_descriptor") ∧ MtR X id r ∧ tyV X.K T x H1 ∧
  t σ H1 fun xs H2 => r x xs H2 Q
section
variable {X : Cx}
theorem base_plain {o : Expr} {name : Str} {env : PySem.Env} (h : notCall o = true) : attributeBase o name env (eval o env) = eval o env := by
  cases o <;> first | rfl | cases h
theorem few_plain {pos : Pos} {env : PySem.Env} {es : List Expr} (ns : ∀ e ∈ es, noStar e = true) (hl : es.length < 20) :
    ((backTo pos (starEach es env)).all (fun x => !x.1) && (backToKw pos (keywordEach [] env)).all (fun x => x.1.isSome) && decide (es.length + ([] : List Keyword).length + (if ([] : List Keyword).isEmpty then 0 else 1) < 30)) = true := by
  have h1 : (backTo pos (starEach es env)).all (fun x => !x.1) = true := by
    have h := star_any (pos := pos) (env := env) ns
    rw [List.all_eq_true]
    intro x hx
    rw [List.any_eq_false] at h
    have := h x hx
    simpa using this
  rw [h1]
  have h2 : (backToKw pos (keywordEach [] env)).all (fun x => x.1.isSome) = true := rfl
  rw [h2]
  simp
  omega
theorem pe_me {o e : Expr} {es : List Expr} {name : Str} {apos cpos : Pos} {to : TE} {t : TA} (ho : PE X o to) (ha : PA X (e :: es) t) (hb : notCall o = true) (hl : oneLine apos cpos = true) (ns : ∀ y ∈ e :: es, noStar y = true) (hn : (e :: es).length < 20) :
    PE X (.Call (.Attribute o name apos) (e :: es) [] cpos) (tMe X name to t) := by
  refine ⟨fun pins s σ H Q I h => ?_⟩
  refine wpAny_Call_method_late (base_plain hb) (few_plain ns hn) hl rfl (thn (ho.run pins s σ H _ I h) fun v s1 ⟨x, H1, I1, r1, q⟩ => ?_)
  obtain ⟨T, id, r, pa, slot, hty, hm, ty, q1⟩ := q
  obtain ⟨h1, h2⟩ := tyV_is I1 r1 ty
  refine ⟨T, id, pa, slot, hty, h1, h2, ?_⟩
  have hA := ha.run cpos pins s1 σ H1 _ I1 q1
  have hs := star_cons (es := es) (env := X.env) (ns e List.mem_cons_self)
  have hp := star_any (pos := cpos) (env := X.env) fun y hy => ns y (List.mem_cons_of_mem e hy)
  rw [hs] at hA ⊢
  refine Calls.callWith_builtin (by show (false || (backTo cpos (starEach es X.env)).any (·.1)) = false; rw [hp] <;> rfl) (Calls.evalArgs_plain ?_)
  exact thn hA fun us s2 ⟨vs, H2, I2, r2, q2⟩ => hm pins s2 σ H2 x vs v us Q I2 r1 r2 q2

/-! ### index -/
theorem natIdx_spec (c : Nat) : ∀ (l : List Nat) (n j : Nat), natIdx c l n = some j → n ≤ j ∧ l[j - n]? = some c ∧ ∀ i, n ≤ i → i < j → l[i - n]? ≠ some c
  | [], _, _, h => by cases h
  | y :: ys, n, j, h => by
    unfold natIdx at h
    split at h
    · rename_i e
      cases h
      subst e
      exact ⟨Nat.le_refl _, by simp, fun i h1 h2 => absurd h2 (Nat.not_lt.mpr h1)⟩
    · rename_i e
      obtain ⟨h1, h2, h3⟩ := natIdx_spec c ys (n + 1) j h
      have e1 : j - n = (j - (n + 1)) + 1 := by omega
      refine ⟨by omega, by rw [e1, List.getElem?_cons_succ]; exact h2, fun i i1 i2 => ?_⟩
      by_cases hi : i = n
      · subst hi
        rw [Nat.sub_self]
        simpa using e
      · have e2 : i - n = (i - (n + 1)) + 1 := by omega
        rw [e2, List.getElem?_cons_succ]
        exact h3 i (by omega) i2
theorem occ_sign {x : Str} {c : Nat} {j : Nat} (h : natIdx c x.cps.toList 0 = some j) : ∃ r, Builtin.Str.occurrences x ⟨#[c]⟩ 0 x.length 1 = j :: r := by
  obtain ⟨_, h2, h3⟩ := natIdx_spec c _ 0 j h
  have one : ∀ i, StrLaws.At x ⟨#[c]⟩ x.length i ↔ x.cps.toList[i]? = some c := fun i => StrLaws.subAt_one x c i
  rcases StrLaws.occ_head x ⟨#[c]⟩ 1 (Nat.le_refl _) with ⟨_, hn⟩ | ⟨i, r, e, ha, hn⟩
  · exact absurd ((one j).mpr (by simpa using h2)) (hn j)
  · have ij : i = j := by
      rcases Nat.lt_trichotomy i j with z | z | z
      · exact absurd ((one i).mp ha) (by simpa using h3 i (Nat.zero_le _) z)
      · exact z
      · exact absurd ((one j).mpr (by simpa using h2)) (hn j z)
    subst ij
    exact ⟨r, e⟩
theorem mt_signIx : MtR X "str.index" (fun x xs H Q => ∃ (a : Str) (c j : Nat), x = .str a ∧ xs = [.str ⟨#[c]⟩] ∧ natIdx c a.cps.toList 0 = some j ∧ Q (.int j) H) := by
  intro pins s σ H x xs v us Q I rx rs h
  obtain ⟨a, c, j, rfl, rfl, e, q⟩ := h
  obtain ⟨t, rfl⟩ := rx
  obtain ⟨u, rfl, t2, rfl⟩ := vals1 rs
  obtain ⟨r, o⟩ := occ_sign e
  exact PySem.SC.index o ⟨.int (j : Nat), H, I.tok _, ⟨_, rfl⟩, q⟩
end
section
variable {X : Cx} {mg : MG} {pins : List (Addr × Obj)} {σ : L2.St} {s : Shared} {W : Wd}
theorem idxOf_spec (x : D) : ∀ (l : List D) (n j : Nat), idxOf x l n = some j → n ≤ j ∧ (∃ z, l[j - n]? = some z ∧ D.eqv z x = true) ∧ ∀ i z, n ≤ i → i < j → l[i - n]? = some z → D.eqv z x = false
  | [], _, _, h => by cases h
  | y :: ys, n, j, h => by
    unfold idxOf at h
    split at h
    · rename_i e
      cases h
      exact ⟨Nat.le_refl _, ⟨y, by simp, e⟩, fun i z h1 h2 => absurd h2 (Nat.not_lt.mpr h1)⟩
    · rename_i e
      obtain ⟨h1, ⟨z, h2, h2'⟩, h3⟩ := idxOf_spec x ys (n + 1) j h
      have e1 : j - n = (j - (n + 1)) + 1 := by omega
      refine ⟨by omega, ⟨z, by rw [e1, List.getElem?_cons_succ]; exact h2, h2'⟩, fun i z i1 i2 e3 => ?_⟩
      by_cases hi : i = n
      · subst hi
        rw [Nat.sub_self] at e3
        have : y = z := by simpa using e3
        subst this
        simpa using e
      · have e2 : i - n = (i - (n + 1)) + 1 := by omega
        rw [e2, List.getElem?_cons_succ] at e3
        exact h3 i z (by omega) i2 e3
end
section
variable {CXx : CXT} {G : Glob} {P : Prog} {k : Nat} {N : List Str} {E : XK} {b : Bl} {X : Cx} {own : List Nat} {ob : Bool}
theorem one_sign {x : Str} (h : x.length = 1) : x = ⟨#[x.cps.getD 0 0]⟩ := by
  obtain ⟨⟨l⟩⟩ := x
  have h : l.length = 1 := h
  match l, h with
  | [c], _ => rfl
theorem snd_me (g : Good CXx G P k N E b X) {o e : Expr} {m : Str} {apos cpos : Pos} {a c : Ex} {i : Me} (hm : meOf m = some i) (hb : notCall o = true) (hl : oneLine apos cpos = true) (ns : noStar e = true) (h1 : Snd own P k E X true o a) (h2 : Snd own P k E X false e c) :
    Snd own P k E X ob (.Call (.Attribute o m apos) [e] [] cpos) (.me i a [c]) := by
  have pa : PA X [e] (tCons (tE X.K X.mgw E own (callP P k) false c) tNil) := pa_cons h2.1 pa_nil (star_cons ns)
  refine .mk' (pe_imp (pe_me h1.1 pa hb hl (fun y hy => by rw [List.mem_singleton.mp hy]; exact ns) (by show 1 < 20; omega)) fun σ H Q q => ?_) fun _ => rfl
  obtain ⟨W, S, en, rfl, R, rr, q⟩ := q
  rw [evE] at q
  refine tE_of R rr (q.bind.mono fun x S1 W1 x1 R1 q1 v hv rr1 _ => ?_)
  unfold meOf at hm
  split at hm
  · rename_i em
    cases hm
    subst em
    cases x <;> first | exact (show False from q1).elim | skip
    · rename_i z
      obtain rfl := hv.b.str_inv
      rw [if_pos (show meOk Me.index (view S1 (.str z)) = true from rfl)] at q1
      refine ⟨"str", "str.index", _, PySem.F.plainAttrs_str, PySem.F.slot_str_index, PySem.F.type_str_index, mt_signIx, rfl, ?_⟩
      have q1 := q1.bind
      rw [evEs] at q1
      refine tE_of R1 rr1 (q1.bind.mono fun y S2 W2 x2 R2 q2 u hu rr2 _ => ?_)
      rw [evEs] at q2
      obtain ⟨d, e, q3⟩ := Out.lift (q2 W2 (Ext.refl W2) R2)
      have e : meth .index (.str z) [y] = some d := e
      show ∃ (a : Str) (c j : Nat), _
      cases y <;> first | (cases e; done) | skip
      rename_i w _
      obtain rfl := hu.b.str_inv
      simp only [meth] at e
      split at e
      · rename_i hw
        obtain ⟨j, e1, rfl⟩ := map_some e
        have hw : w.length = 1 := by simpa using (Bool.and_eq_true_iff.mp hw).1
        exact ⟨z, w.cps.getD 0 0, j, rfl, by rw [← one_sign hw], e1, q3 W2 (Ext.refl W2) R2 _ (RepM.of (.int _))⟩
      · cases e
    · rename_i n
      exfalso
      have : meOk Me.index (view S1 (.ref n)) = false := by
        unfold view
        repeat (first | rfl | split)
      rw [this] at q1
      exact q1
  · cases hm
end
end Ly
/-! Ly: what loops and comprehensions walk. -/
namespace Ly
open PySem PySem.Spec PyProof.Rows L2 PySem.SeqAt

/-- what goes on, but for the places of Z -/
structure ExtZ (Z : Addr → Prop) (W W' : Wd) : Prop where
  keep : ∀ a o, W.H a = some o → a ∉ W.ρ → ¬ Z a → W'.H a = some o
  pre : W.ρ <+: W'.ρ
  fsub : ∀ a, W.F a → W'.F a
  fnew : ∀ a, W'.F a → W.F a ∨ W.H a = none
  dom : ∀ a, W.H a ≠ none → W'.H a ≠ none
  rnew : ∀ a, a ∈ W'.ρ → a ∈ W.ρ ∨ W.H a = none
section
variable {K : PySem.W.Frag} {mg : MG} {Z : Addr → Prop} {W W' W'' : Wd} {S S' : Sto} {d : D} {v : V} {ds : List D} {vs : List V} {a : Addr}
theorem Ext.z (x : Ext W W') : ExtZ Z W W' := ⟨fun a o h n _ => x.keep a o h n, x.pre, x.fsub, x.fnew, x.dom, x.rnew⟩
theorem ExtZ.toExt (x : ExtZ Z W W') (h : ∀ a, ¬ Z a) : Ext W W' := ⟨fun a o q n => x.keep a o q n (h a), x.pre, x.fsub, x.fnew, x.dom, x.rnew⟩
theorem ExtZ.trans (x : ExtZ Z W W') (y : ExtZ Z W' W'') : ExtZ Z W W'' := by
  refine ⟨fun a o h n z => y.keep a o (x.keep a o h n z) (fun hm => ?_) z, x.pre.trans y.pre, fun a h => y.fsub a (x.fsub a h), fun a h => ?_, fun a h => y.dom a (x.dom a h), fun a h => ?_⟩
  · rcases x.rnew a hm with q | q
    · exact n q
    · rw [h] at q; cases q
  · rcases y.fnew a h with z | z
    · exact x.fnew a z
    · refine .inr ?_
      cases q : W.H a with
      | none => rfl
      | some o => exact absurd z (x.dom a (by rw [q]; simp))
  · rcases y.rnew a h with z | z
    · exact x.rnew a z
    · refine .inr ?_
      cases q : W.H a with
      | none => rfl
      | some o => exact absurd z (x.dom a (by rw [q]; simp))
/-- the places of Z: of those that may change, or new -/
def ZOk (Z : Addr → Prop) (W : Wd) : Prop := ∀ a, Z a → W.F a ∨ W.H a = none
theorem ExtZ.rd {u : HO} (x : ExtZ Z W W') (z : ZOk Z W) (hs : ∀ a ∈ W.ρ, W.F a) (h : Rd W.H a u ∧ ¬ W.F a) : Rd W'.H a u ∧ ¬ W'.F a := by
  obtain ⟨h, n⟩ := h
  have nr : a ∉ W.ρ := fun z => n (hs a z)
  have nz : ¬ Z a := fun q => by
    rcases z a q with q | q
    · exact n q
    · rcases h with h | ⟨o, h⟩ <;> (rw [h] at q; cases q)
  refine ⟨?_, fun z => ?_⟩
  · rcases h with h | ⟨o, h⟩
    · exact .inl (x.keep _ _ h nr nz)
    · exact .inr ⟨o, x.keep _ _ h nr nz⟩
  · rcases x.fnew a z with z | z
    · exact n z
    · rcases h with h | ⟨o, h⟩ <;> (rw [h] at z; cases z)
theorem ExtZ.tat (x : ExtZ Z W W') (z : ZOk Z W) (hs : ∀ a ∈ W.ρ, W.F a) (h : TAt K W a vs) : TAt K W' a vs := h.elim (fun h => .inl (x.rd z hs h)) .inr
theorem ExtZ.lat (x : ExtZ Z W W') (z : ZOk Z W) (hs : ∀ a ∈ W.ρ, W.F a) (h : LAt K W a vs) : LAt K W' a vs := h.elim (fun h => .inl (x.rd z hs h)) .inr
theorem ExtZ.dat {es : List DictEntry} {ep : Nat} (x : ExtZ Z W W') (z : ZOk Z W) (hs : ∀ a ∈ W.ρ, W.F a) (h : DAt W a es ep) : DAt W' a es ep := x.rd z hs h
theorem ExtZ.ix {n : Nat} (x : ExtZ Z W W') (h : W.ρ[n]? = some a) : W'.ρ[n]? = some a := by
  obtain ⟨t, e⟩ := x.pre
  rw [← e, List.getElem?_append_left (List.getElem?_eq_some_iff.mp h).1]
  exact h
mutual
theorem RepD.extZ (x : ExtZ Z W W') (z : ZOk Z W) (hs : ∀ a ∈ W.ρ, W.F a) : ∀ {d : D} {v : V}, RepD K mg W d v → RepD K mg W' d v
  | _, _, .non => .non
  | _, _, .bl b => .bl b
  | _, _, .int i => .int i
  | _, _, .str s => .str s
  | _, _, .ty n => .ty n
  | _, _, .tup h r => .tup (x.tat z hs h) (RepDs.extZ x z hs r)
  | _, _, .lst h r => .lst (x.lat z hs h) (RepDs.extZ x z hs r)
  | _, _, .dct h r o => .dct (x.dat z hs h) (Ents.extZ x z hs r) o
  | _, _, .ref h => .ref (x.ix h)
  | _, _, .fn h => .fn h
theorem RepDs.extZ (x : ExtZ Z W W') (z : ZOk Z W) (hs : ∀ a ∈ W.ρ, W.F a) : ∀ {d : List D} {v : List V}, RepDs K mg W d v → RepDs K mg W' d v
  | _, _, .nil => .nil
  | _, _, .cons h r => .cons (RepD.extZ x z hs h) (RepDs.extZ x z hs r)
theorem Ents.extZ (x : ExtZ Z W W') (z : ZOk Z W) (hs : ∀ a ∈ W.ρ, W.F a) : ∀ {d : List (D × D)} {v : List DictEntry}, Ents K mg W d v → Ents K mg W' d v
  | _, _, .nil => .nil
  | _, _, .cons h1 h2 h3 h4 h5 r => .cons (RepD.extZ x z hs h1) h2 (RepD.extZ x z hs h3) h4 h5 (Ents.extZ x z hs r)
end
theorem OwnC.extZ (x : ExtZ Z W W') (z : ZOk Z W) (hs : ∀ a ∈ W.ρ, W.F a) (n : a ∉ W.ρ) (nz : ¬ Z a) (h : OwnC K mg W d a) : OwnC K mg W' d a := by
  cases h with
  | lst h r => exact .lst (x.keep _ _ h n nz) (r.extZ x z hs)
  | dct h r o => exact .dct (x.keep _ _ h n nz) (r.extZ x z hs) o
theorem OwnC.notρZ (x : ExtZ Z W W') (n : a ∉ W.ρ) (h : OwnC K mg W d a) : a ∉ W'.ρ := fun z => by
  rcases x.rnew _ z with z | z
  · exact n z
  · obtain ⟨o, h⟩ := h.some
    rw [h] at z; cases z
/-- fewer places that may change -/
def Wd.less (W : Wd) (D : Addr) : Wd := ⟨W.ρ, fun a => W.F a ∧ a ≠ D, W.H⟩
mutual
theorem RepD.less {D : Addr} : ∀ {d : Ly.D} {v : V}, RepD K mg W d v → RepD K mg (W.less D) d v
  | _, _, .non => .non
  | _, _, .bl b => .bl b
  | _, _, .int i => .int i
  | _, _, .str s => .str s
  | _, _, .ty n => .ty n
  | _, _, .tup h r => .tup (h.elim (fun h => .inl ⟨h.1, fun q => h.2 q.1⟩) .inr) (RepDs.less r)
  | _, _, .lst h r => .lst (h.elim (fun h => .inl ⟨h.1, fun q => h.2 q.1⟩) .inr) (RepDs.less r)
  | _, _, .dct h r o => .dct ⟨h.1, fun q => h.2 q.1⟩ (Ents.less r) o
  | _, _, .ref h => .ref h
  | _, _, .fn h => .fn h
theorem RepDs.less {D : Addr} : ∀ {d : List Ly.D} {v : List V}, RepDs K mg W d v → RepDs K mg (W.less D) d v
  | _, _, .nil => .nil
  | _, _, .cons h r => .cons (RepD.less h) (RepDs.less r)
theorem Ents.less {D : Addr} : ∀ {d : List (Ly.D × Ly.D)} {v : List DictEntry}, Ents K mg W d v → Ents K mg (W.less D) d v
  | _, _, .nil => .nil
  | _, _, .cons h1 h2 h3 h4 h5 r => .cons (RepD.less h1) h2 (RepD.less h3) h4 h5 (Ents.less r)
end
theorem RepO.less {D : Addr} {mo : MO} (h : RepO K mg W a mo) : RepO K mg (W.less D) a mo := by
  cases mo with
  | lst xs => obtain ⟨vs, h1, h2⟩ := h; exact ⟨vs, h1, h2.less⟩
  | dct kvs => obtain ⟨es, ep, h1, h2, h3⟩ := h; exact ⟨es, ep, h1, h2.less, h3⟩
  | ins c fs => exact h
  | dead => exact h
theorem Rep.less {D : Addr} (R : Rep K mg W S) (h : D ∉ W.ρ) : Rep K mg (W.less D) S where
  len := R.len
  nd := R.nd
  sub := fun a ha => ⟨R.sub a ha, fun e => h (e ▸ ha)⟩
  dom := fun a ha => R.dom a ha.1
  obj := fun n mo a h1 h2 => (R.obj n mo a h1 h2).less
/-- more places that may change: a new list that is being made -/
def Wd.more (W : Wd) (D : Addr) (o : HO) : Wd := ⟨W.ρ, fun a => W.F a ∨ a = D, upd W.H D o⟩
theorem Ext.more {D : Addr} {o : HO} (hn : W.H D = none) : Ext W (W.more D o) where
  keep := fun a u h _ => by
    show upd W.H D o a = some u
    rw [upd_ne (fun e => by rw [e, hn] at h; cases h)]
    exact h
  pre := List.prefix_refl _
  fsub := fun a h => .inl h
  fnew := fun a h => h.elim .inl fun e => .inr (e ▸ hn)
  dom := fun a h => by
    show upd W.H D o a ≠ none
    by_cases e : a = D
    · subst e; rw [upd_same]; simp
    · rw [upd_ne e]; exact h
  rnew := fun a h => .inl h
theorem Rep.more {D : Addr} {o : HO} (R : Rep K mg W S) (hn : W.H D = none) : Rep K mg (W.more D o) S where
  len := R.len
  nd := R.nd
  sub := fun a ha => .inl (R.sub a ha)
  dom := fun a ha => by
    show upd W.H D o a ≠ none
    rcases ha with ha | rfl
    · by_cases e : a = D
      · subst e; rw [upd_same]; simp
      · rw [upd_ne e]; exact R.dom a ha
    · rw [upd_same]; simp
  obj := fun n mo a h1 h2 => RepO.ext (Ext.more hn) R.sub (fun u h => by
    show upd W.H D o a = some u
    rw [upd_ne (fun e => by rw [e, hn] at h; cases h)]
    exact h) (R.obj n mo a h1 h2)
/-- a list that the def alone holds, with another content -/
def Wd.at (W : Wd) (D : Addr) (o : HO) : Wd := ⟨W.ρ, W.F, upd W.H D o⟩
theorem ExtZ.at {D : Addr} {o : HO} (z : Z D) (hn : W.H D ≠ none) : ExtZ Z W (W.at D o) where
  keep := fun a u h _ n => by
    show upd W.H D o a = some u
    rw [upd_ne (fun e => n (by rw [e]; exact z))]
    exact h
  pre := List.prefix_refl _
  fsub := fun a h => h
  fnew := fun a h => .inl h
  dom := fun a h => by
    show upd W.H D o a ≠ none
    by_cases e : a = D
    · subst e; rw [upd_same]; simp
    · rw [upd_ne e]; exact h
  rnew := fun a h => .inl h
theorem Rep.at {D : Addr} {o : HO} (R : Rep K mg W S) (hF : W.F D) (hρ : D ∉ W.ρ) : Rep K mg (W.at D o) S where
  len := R.len
  nd := R.nd
  sub := R.sub
  dom := fun a ha => by
    show upd W.H D o a ≠ none
    by_cases e : a = D
    · subst e; rw [upd_same]; simp
    · rw [upd_ne e]; exact R.dom a ha
  obj := fun n mo a h1 h2 => by
    have hne : a ≠ D := fun e => hρ (e ▸ List.mem_of_getElem? h2)
    have x : ExtZ (fun a => a = D) W (W.at D o) := ExtZ.at rfl (R.dom D hF)
    have z : ZOk (fun a => a = D) W := fun a e => .inl (e ▸ hF)
    cases mo with
    | lst xs =>
      obtain ⟨vs, q1, q2⟩ := R.obj n _ a h1 h2
      exact ⟨vs, by show upd W.H D o a = _; rw [upd_ne hne]; exact q1, q2.extZ x z R.sub⟩
    | dct kvs =>
      obtain ⟨es, ep, q1, q2, q3⟩ := R.obj n _ a h1 h2
      exact ⟨es, ep, by show upd W.H D o a = _; rw [upd_ne hne]; exact q1, q2.extZ x z R.sub, q3⟩
    | ins c fs => exact R.obj n _ a h1 h2
    | dead => trivial
end

/-! ### what is walked -/
section
variable (K : PySem.W.Frag) (mg : MG)
/-- a list, a tuple, as it stands at each turn -/
def SrcL (Z : Addr → Prop) (W : Wd) (w : List (Nat × Option MO)) (a : Addr) (xs : List D) : Prop := ∀ W' S', ExtZ Z W W' → Rep K mg W' S' → still S' w = true → ∃ vs, SqL K W'.H a vs ∧ RepDs K mg W' xs vs
def SrcT (Z : Addr → Prop) (W : Wd) (w : List (Nat × Option MO)) (a : Addr) (xs : List D) : Prop := ∀ W' S', ExtZ Z W W' → Rep K mg W' S' → still S' w = true → ∃ vs, SqT K W'.H a vs ∧ RepDs K mg W' xs vs
/-- the walk gives xs, one by one -/
structure Wk (Z : Addr → Prop) (W : Wd) (w : List (Nat × Option MO)) (xs : List D) (J : It) : Prop where
  go : ∀ i W' S', i < xs.length → ExtZ Z W W' → Rep K mg W' S' → still S' w = true → J.go i W'.H
  stop : ∀ W' S', ExtZ Z W W' → Rep K mg W' S' → still S' w = true → J.stop xs.length W'.H
  yld : ∀ i W' S' x H', i < xs.length → ExtZ Z W W' → Rep K mg W' S' → still S' w = true → J.yld i W'.H x H' → ∃ W'' d, W''.H = H' ∧ Ext W' W'' ∧ Rep K mg W'' S' ∧ xs[i]? = some d ∧ RepD K mg W'' d x
end
section
variable {K : PySem.W.Frag} {mg : MG} {Z : Addr → Prop} {W : Wd} {w : List (Nat × Option MO)} {a b : Addr} {xs ys : List D}
theorem get_both {W : Wd} {xs : List D} {vs : List V} {i : Nat} (r : RepDs K mg W xs vs) (h : i < xs.length) : ∃ d v, xs[i]? = some d ∧ vs[i]? = some v ∧ RepD K mg W d v := by
  have e : xs[i]? = some xs[i] := List.getElem?_eq_getElem h
  obtain ⟨v, h1, h2⟩ := r.get e
  exact ⟨_, v, e, h1, h2⟩
theorem wk_list (s : SrcL K mg Z W w a xs) : Wk K mg Z W w xs (Itl K a) where
  go := fun i W' S' hi x R st => by
    obtain ⟨vs, q, r⟩ := s W' S' x R st
    obtain ⟨d, v, h1, h2, _⟩ := get_both r hi
    exact ⟨vs, v, q, h2⟩
  stop := fun W' S' x R st => by
    obtain ⟨vs, q, r⟩ := s W' S' x R st
    exact ⟨vs, q, by rw [r.length]; exact Nat.le_refl _⟩
  yld := fun i W' S' x H' hi e R st y => by
    obtain ⟨vs, q, r⟩ := s W' S' e R st
    obtain ⟨d, v, h1, h2, h3⟩ := get_both r hi
    obtain ⟨rfl, y⟩ := y
    have := y vs q
    rw [h2] at this; cases this
    exact ⟨W', d, rfl, Ext.refl W', R, h1, h3⟩
theorem wk_tup (s : SrcT K mg Z W w a xs) : Wk K mg Z W w xs (Itt K a) where
  go := fun i W' S' hi x R st => by
    obtain ⟨vs, q, r⟩ := s W' S' x R st
    obtain ⟨d, v, h1, h2, _⟩ := get_both r hi
    exact ⟨vs, v, q, h2⟩
  stop := fun W' S' x R st => by
    obtain ⟨vs, q, r⟩ := s W' S' x R st
    exact ⟨vs, q, by rw [r.length]; exact Nat.le_refl _⟩
  yld := fun i W' S' x H' hi e R st y => by
    obtain ⟨vs, q, r⟩ := s W' S' e R st
    obtain ⟨d, v, h1, h2, h3⟩ := get_both r hi
    obtain ⟨rfl, y⟩ := y
    have := y vs q
    rw [h2] at this; cases this
    exact ⟨W', d, rfl, Ext.refl W', R, h1, h3⟩
theorem wk_str {s : Str} : Wk K mg Z W w (s.cps.toList.map fun c => D.str ⟨#[c]⟩) (Its s) where
  go := fun i W' S' hi x R st => by
    have : i < s.cps.size := by simpa using hi
    exact this
  stop := fun W' S' x R st => by show s.cps.size ≤ _; simp
  yld := fun i W' S' x H' hi e R st y => by
    obtain ⟨rfl, c, h1, rfl⟩ := y
    refine ⟨W', .str ⟨#[c]⟩, rfl, Ext.refl W', R, ?_, .str _⟩
    simp [h1]
theorem wk_range {lo hi : Int} : Wk K mg Z W w (rangeD lo hi) (Itr lo (hi - lo).toNat) where
  go := fun i W' S' h x R st => by
    have : i < (hi - lo).toNat := by simpa [rangeD] using h
    exact this
  stop := fun W' S' x R st => by show _ ≤ _; simp [rangeD]
  yld := fun i W' S' x H' h e R st y => by
    obtain ⟨rfl, rfl⟩ := y
    have h : i < (hi - lo).toNat := by simpa [rangeD] using h
    refine ⟨W', .int (lo + i), rfl, Ext.refl W', R, ?_, .int _⟩
    simp [rangeD, h]
theorem zipD_length : ∀ (xs ys : List D), (zipD xs ys).length = min xs.length ys.length
  | [], _ => by simp [zipD]
  | _ :: _, [] => by simp [zipD]
  | x :: xs, y :: ys => by rw [zipD, List.length_cons, zipD_length xs ys, List.length_cons, List.length_cons]; omega
theorem zipD_get : ∀ (xs ys : List D) (i : Nat) (x y : D), xs[i]? = some x → ys[i]? = some y → (zipD xs ys)[i]? = some (.tup [x, y])
  | [], _, _, _, _, h, _ => by simp at h
  | _ :: _, [], _, _, _, _, h => by simp at h
  | x :: xs, y :: ys, 0, _, _, h1, h2 => by simp at h1 h2; subst h1 h2; rfl
  | x :: xs, y :: ys, i + 1, _, _, h1, h2 => zipD_get xs ys i _ _ (by simpa using h1) (by simpa using h2)
theorem enumD_length : ∀ (n : Nat) (xs : List D), (enumD n xs).length = xs.length
  | _, [] => rfl
  | n, x :: xs => by rw [enumD, List.length_cons, enumD_length, List.length_cons]
theorem enumD_get : ∀ (n : Nat) (xs : List D) (i : Nat) (x : D), xs[i]? = some x → (enumD n xs)[i]? = some (.tup [.int ((n + i : Nat) : Int), x])
  | _, [], _, _, h => by simp at h
  | n, x :: xs, 0, _, h => by simp at h; subst h; rfl
  | n, x :: xs, i + 1, _, h => by
    have e : n + (i + 1) = (n + 1) + i := by omega
    rw [e]
    exact enumD_get (n + 1) xs i _ (by simpa using h)
theorem pair_new {W' : Wd} {S' : Sto} {T : Addr} {x y : V} {d e : D} (R : Rep K mg W' S') (hn : W'.H T = none) (h1 : RepD K mg W' d x) (h2 : RepD K mg W' e y) :
    ∃ W'', W''.H = upd W'.H T (.tup [x, y]) ∧ Ext W' W'' ∧ Rep K mg W'' S' ∧ RepD K mg W'' (.tup [d, e]) (.ref T) :=
  ⟨W'.new T (.tup [x, y]), rfl, Ext.new hn, R.new hn, new_tup R hn (.cons h1 (.cons h2 .nil))⟩
theorem wk_enum (s : SrcL K mg Z W w a xs) : Wk K mg Z W w (enumD 0 xs) (Ite K a) where
  go := fun i W' S' hi x R st => by
    rw [enumD_length] at hi
    obtain ⟨vs, q, r⟩ := s W' S' x R st
    obtain ⟨d, v, h1, h2, _⟩ := get_both r hi
    exact ⟨vs, v, q, h2⟩
  stop := fun W' S' x R st => by
    rw [enumD_length]
    obtain ⟨vs, q, r⟩ := s W' S' x R st
    exact ⟨vs, q, by rw [r.length]; exact Nat.le_refl _⟩
  yld := fun i W' S' x H' hi e R st y => by
    rw [enumD_length] at hi
    obtain ⟨vs, q, r⟩ := s W' S' e R st
    obtain ⟨d, v, h1, h2, h3⟩ := get_both r hi
    obtain ⟨T, z, rfl, hn, rfl, y⟩ := y
    have := y vs q
    rw [h2] at this; cases this
    obtain ⟨W'', k1, k2, k3, k4⟩ := pair_new R hn (.int (i : Nat)) h3
    have g := enumD_get 0 xs i d h1
    rw [Nat.zero_add] at g
    exact ⟨W'', _, k1, k2, k3, g, k4⟩
theorem wk_zip (s : SrcL K mg Z W w a xs) (t : SrcL K mg Z W w b ys) : Wk K mg Z W w (zipD xs ys) (Itz K a b) where
  go := fun i W' S' hi x R st => by
    rw [zipD_length] at hi
    obtain ⟨vs, q, r⟩ := s W' S' x R st
    obtain ⟨us, q', r'⟩ := t W' S' x R st
    obtain ⟨d, v, h1, h2, _⟩ := get_both r (i := i) (by omega)
    obtain ⟨d', v', h1', h2', _⟩ := get_both r' (i := i) (by omega)
    exact ⟨vs, us, v, v', q, q', h2, h2'⟩
  stop := fun W' S' x R st => by
    rw [zipD_length]
    obtain ⟨vs, q, r⟩ := s W' S' x R st
    obtain ⟨us, q', r'⟩ := t W' S' x R st
    exact ⟨vs, us, q, q', by rw [r.length, r'.length]; omega⟩
  yld := fun i W' S' x H' hi e R st y => by
    rw [zipD_length] at hi
    obtain ⟨vs, q, r⟩ := s W' S' e R st
    obtain ⟨us, q', r'⟩ := t W' S' e R st
    obtain ⟨d, v, h1, h2, h3⟩ := get_both r (i := i) (by omega)
    obtain ⟨d', v', h1', h2', h3'⟩ := get_both r' (i := i) (by omega)
    obtain ⟨T, z, z', rfl, hn, rfl, y, y'⟩ := y
    have := y vs q
    rw [h2] at this; cases this
    have := y' us q'
    rw [h2'] at this; cases this
    obtain ⟨W'', k1, k2, k3, k4⟩ := pair_new R hn h3 h3'
    exact ⟨W'', _, k1, k2, k3, zipD_get xs ys i d d' h1 h1', k4⟩
theorem wk_zipT (s : SrcT K mg Z W w a xs) (t : SrcT K mg Z W w b ys) : Wk K mg Z W w (zipD xs ys) (RZ.ItzT K a b) where
  go := fun i W' S' hi x R st => by
    rw [zipD_length] at hi
    obtain ⟨vs, q, r⟩ := s W' S' x R st
    obtain ⟨us, q', r'⟩ := t W' S' x R st
    obtain ⟨d, v, h1, h2, _⟩ := get_both r (i := i) (by omega)
    obtain ⟨d', v', h1', h2', _⟩ := get_both r' (i := i) (by omega)
    exact ⟨vs, us, v, v', q, q', h2, h2'⟩
  stop := fun W' S' x R st => by
    rw [zipD_length]
    obtain ⟨vs, q, r⟩ := s W' S' x R st
    obtain ⟨us, q', r'⟩ := t W' S' x R st
    exact ⟨vs, us, q, q', by rw [r.length, r'.length]; omega⟩
  yld := fun i W' S' x H' hi e R st y => by
    rw [zipD_length] at hi
    obtain ⟨vs, q, r⟩ := s W' S' e R st
    obtain ⟨us, q', r'⟩ := t W' S' e R st
    obtain ⟨d, v, h1, h2, h3⟩ := get_both r (i := i) (by omega)
    obtain ⟨d', v', h1', h2', h3'⟩ := get_both r' (i := i) (by omega)
    obtain ⟨T, z, z', rfl, hn, rfl, y, y'⟩ := y
    have := y vs q
    rw [h2] at this; cases this
    have := y' us q'
    rw [h2'] at this; cases this
    obtain ⟨W'', k1, k2, k3, k4⟩ := pair_new R hn h3 h3'
    exact ⟨W'', _, k1, k2, k3, zipD_get xs ys i d d' h1 h1', k4⟩

/-! ### from a value -/
/-- Z leaves what may be walked: b: a list of the def's own may be walked, Z is new -/
def ZFor (b : Bool) (Z : Addr → Prop) (W : Wd) : Prop := if b = true then ∀ a, Z a → W.H a = none else ∀ a, Z a → W.F a
theorem ZFor.ok {b : Bool} (z : ZFor b Z W) : ZOk Z W := fun a h => by
  unfold ZFor at z
  split at z
  · exact .inr (z a h)
  · exact .inl (z a h)
theorem still_at {S S' : Sto} {n : Nat} {r : List D} {w : List (Nat × Option MO)} (h : still S' w = true) (hm : (n, S[n]?) ∈ w) : S'[n]? = S[n]? := by
  unfold still at h
  rw [List.all_eq_true] at h
  simpa using h _ hm
theorem src_lst {bb : Bool} {S : Sto} {d : D} {v : V} (z : ZFor bb Z W) (R : Rep K mg W S) (h : RepM bb K mg W d v) (hw : ∀ n, d = .ref n → (n, S[n]?) ∈ w) (e : view S d = .lst xs) : ∃ a, v = .ref a ∧ (∃ vs, SqL K W.H a vs) ∧ SrcL K mg Z W w a xs := by
  have dd : RepD K mg W d v → ∃ a, v = .ref a ∧ (∃ vs, SqL K W.H a vs) ∧ SrcL K mg Z W w a xs := by
    clear h
    intro k
    cases k with
    | lst l r =>
      cases (show D.lst _ = D.lst _ from e)
      exact ⟨_, rfl, ⟨_, l.sq⟩, fun W' S' x R' st => ⟨_, (x.lat z.ok R.sub l).sq, r.extZ x z.ok R.sub⟩⟩
    | ref l =>
      rename_i n a
      have e : (match S[n]? with | some (.lst xs) => D.lst xs | some (.dct kvs) => .dct kvs | _ => .ref n) = .lst xs := e
      split at e
      · rename_i ys q
        cases e
        obtain ⟨vs, h1, h2⟩ := R.obj n _ a q l
        refine ⟨a, rfl, ⟨vs, .inl (.inl h1)⟩, fun W' S' x R' st => ?_⟩
        have q' := still_at (r := []) st (hw n rfl)
        rw [q] at q'
        obtain ⟨us, k1, k2⟩ := R'.obj n _ a q' (x.ix l)
        exact ⟨us, .inl (.inl k1), k2⟩
      · cases e
      · cases e
    | _ => cases e
  cases bb with
  | true =>
    have k : RepB K mg W d v := h
    clear h
    cases k with
    | of k => exact dd k
    | own c n =>
      cases c with
      | dct l r o => cases (show D.dct _ = D.lst _ from e)
      | lst l r =>
        cases (show D.lst _ = D.lst _ from e)
        refine ⟨_, rfl, ⟨_, .inl (.inl l)⟩, fun W' S' x R' st => ⟨_, .inl (.inl (x.keep _ _ l n fun q => ?_)), r.extZ x z.ok R.sub⟩⟩
        have := (show ∀ a, Z a → W.H a = none from z) _ q
        rw [l] at this; cases this
  | false => exact dd h
/-- a dict, as it stands at each turn -/
def SrcD (K : PySem.W.Frag) (mg : MG) (Z : Addr → Prop) (W : Wd) (w : List (Nat × Option MO)) (a : Addr) (kvs : List (D × D)) : Prop := ∃ es ep, Ents K mg W kvs es ∧ DOk kvs ∧ Rd W.H a (DictO a es ep) ∧
  ∀ W' S', ExtZ Z W W' → Rep K mg W' S' → still S' w = true → Rd W'.H a (DictO a es ep)
theorem src_dct {S : Sto} {d : D} {v : V} {kvs : List (D × D)} (z : ZFor false Z W) (R : Rep K mg W S) (h : RepD K mg W d v) (e : view S d = .dct kvs) (hn : ∀ n, d ≠ .ref n) : ∃ a, v = .ref a ∧ SrcD K mg Z W w a kvs := by
  cases h with
  | dct h r o =>
    cases (show D.dct _ = D.dct _ from e)
    exact ⟨_, rfl, _, _, r, o, h.1, fun W' S' x R' st => (x.dat z.ok R.sub h).1⟩
  | ref l => exact absurd rfl (hn _)
  | _ => cases e
theorem src_dctB {S : Sto} {d : D} {v : V} {kvs : List (D × D)} (z : ZFor true Z W) (R : Rep K mg W S) (h : RepB K mg W d v) (e : view S d = .dct kvs) (hn : ∀ n, d ≠ .ref n) : ∃ a, v = .ref a ∧ SrcD K mg Z W w a kvs := by
  cases h with
  | of h =>
    cases h with
    | dct h r o =>
      cases (show D.dct _ = D.dct _ from e)
      exact ⟨_, rfl, _, _, r, o, h.1, fun W' S' x R' st => (x.dat z.ok R.sub h).1⟩
    | ref l => exact absurd rfl (hn _)
    | _ => cases e
  | own c n =>
    cases c with
    | lst l r => cases (show D.lst _ = D.dct _ from e)
    | dct l r o =>
      cases (show D.dct _ = D.dct _ from e)
      refine ⟨_, rfl, _, _, r, o, .inl l, fun W' S' x R' st => .inl (x.keep _ _ l n fun q => ?_)⟩
      have := (show ∀ a, Z a → W.H a = none from z) _ q
      rw [l] at this; cases this
theorem src_tup {bb : Bool} {S : Sto} {d : D} {v : V} (z : ZFor bb Z W) (R : Rep K mg W S) (h : RepM bb K mg W d v) (e : view S d = .tup xs) : ∃ a, v = .ref a ∧ (∃ vs, SqT K W.H a vs) ∧ SrcT K mg Z W w a xs := by
  have k := h.b
  clear h
  cases k with
  | own l n => cases l <;> cases e
  | of k =>
    cases k with
    | tup l r =>
      cases (show D.tup _ = D.tup _ from e)
      exact ⟨_, rfl, ⟨_, l.sq⟩, fun W' S' x R' st => ⟨_, (x.tat z.ok R.sub l).sq, r.extZ x z.ok R.sub⟩⟩
    | ref l =>
      unfold view at e
      repeat' (first | (cases e; done) | split at e)
    | _ => cases e
end
end Ly
/-! Ly: dicts that are walked by their keys, values, items; enumerate of a tuple. -/
namespace Ly
open PySem PySem.Spec PyProof.Rows L2 PySem.SeqAt

def ItK (d : Addr) (es : List DictEntry) (ep : Nat) : It := ⟨fun i H => Rd H d (DictO d es ep) ∧ i < es.length, fun i H x H' => H' = H ∧ ∃ e, es[i]? = some e ∧ RelV x e.key, fun i H => Rd H d (DictO d es ep) ∧ es.length ≤ i⟩
def ItV (d : Addr) (es : List DictEntry) (ep : Nat) : It := ⟨fun i H => Rd H d (DictO d es ep) ∧ i < es.length, fun i H x H' => H' = H ∧ ∃ e, es[i]? = some e ∧ RelV x e.val, fun i H => Rd H d (DictO d es ep) ∧ es.length ≤ i⟩
def ItI (d : Addr) (es : List DictEntry) (ep : Nat) : It := ⟨fun i H => Rd H d (DictO d es ep) ∧ i < es.length, fun i H v H' => ∃ T e x y, es[i]? = some e ∧ RelV x e.key ∧ RelV y e.val ∧ v = .ref T ∧ H T = none ∧ H' = upd H T (.tup [x, y]), fun i H => Rd H d (DictO d es ep) ∧ es.length ≤ i⟩
section
variable {P : Program} {w : World} {K : PySem.W.Frag} {tg : Expr} {d : Addr} {es : List DictEntry} {ep : Nat}
theorem raw_of {X : Cx} {pins : List (Addr × Obj)} {σ : L2.St} {H : Hp} {s : Shared} (I : Inv X pins σ H s) (h : Rd H d (DictO d es ep)) : (d == sysModules) = false ∧ s.heap.DictRaw d es.toArray ep := by
  obtain ⟨h, _⟩ := (show ObjOk X.prog X.w H s.heap d (DictO d es ep) from h.ok I.hok)
  exact h
/-- every value is told by some V -/
theorem relV_all (Vs : List V) (us : List Value) (r : Vals Vs us) {i : Nat} {u : Value} (h : us[i]? = some u) : ∃ v, Vs[i]? = some v ∧ RelV v u := by
  induction r generalizing i with
  | nil => simp at h
  | cons r t ih =>
    cases i with
    | zero => simp at h; subst h; exact ⟨_, rfl, r⟩
    | succ i => simpa using ih (by simpa using h)
theorem turn_key (it : Addr) (ks : List V) (hk : Vals ks (es.map (·.key))) : Turn P w K tg (ItK d es ep) [it] it (fun i h => h.IsKeyIter it d i es.toArray.size ep) where
  mem := by simp
  obj := fun i h st b hb => by
    have e : b = it := by simpa using hb
    subst e
    obtain ⟨oi, e, c, dd⟩ := st
    exact ⟨oi, e, fun v z => by rw [dd] at z; cases z⟩
  keep := fun i h h' st k => st.at fun oi e => k it (by simp) oi e
  item := by
    intro X hP hw hK hc i pins s σ H E I hf st hg
    subst hP hw hK
    obtain ⟨hd, hi⟩ := hg
    obtain ⟨f0, f1, f2, f3, f4, f5⟩ := hf it (by simp)
    obtain ⟨_, hr⟩ := raw_of I hd
    refine wpAny_pyNext_keys_item_raw st hr (by simpa using hi) fun h' st' sb => ?_
    have I1 : Inv X pins σ H { s with heap := h' } := I.turned (t' := s.toks) (fun b ob hb e => (sb.2 b hb).trans e) f0 f1 f3 f4 f5
    obtain ⟨oi, e, c, dd⟩ := id st'
    obtain ⟨v, _, rv⟩ := relV_all ks _ hk (i := i) (u := es[i].key) (by simp [hi])
    refine ⟨_, rfl, go_of (s := { s with heap := h' }) e c dd (by decide) ⟨v, H, I1, by simpa using rv, ⟨rfl, es[i], by simp [hi], rv⟩, st', fun b hb => (hf b hb).1⟩⟩
  done := by
    intro X hP hw hK hc i pins s σ H E I hf st hg
    subst hP hw hK
    obtain ⟨hd, hi⟩ := hg
    obtain ⟨f0, f1, f2, f3, f4, f5⟩ := hf it (by simp)
    obtain ⟨_, hr⟩ := raw_of I hd
    exact wpAny_pyNext_keys_end_raw (I.ok.hd hc) st hr (by simpa using hi) fun h' eb => ⟨rfl, I.turned (t' := s.toks) (fun b ob hb e => eb b ob hb e) f0 f1 f3 f4 f5⟩
  self := fun A i s Q E st h => wpAny_pyIter_keyiter st h
theorem turn_val (it : Addr) (ks : List V) (hk : Vals ks (es.map (·.val))) : Turn P w K tg (ItV d es ep) [it] it (fun i h => h.IsValIter it d i es.toArray.size ep) where
  mem := by simp
  obj := fun i h st b hb => by
    have e : b = it := by simpa using hb
    subst e
    obtain ⟨oi, e, c, dd⟩ := st
    exact ⟨oi, e, fun v z => by rw [dd] at z; cases z⟩
  keep := fun i h h' st k => st.at fun oi e => k it (by simp) oi e
  item := by
    intro X hP hw hK hc i pins s σ H E I hf st hg
    subst hP hw hK
    obtain ⟨hd, hi⟩ := hg
    obtain ⟨f0, f1, f2, f3, f4, f5⟩ := hf it (by simp)
    obtain ⟨_, hr⟩ := raw_of I hd
    refine wpAny_pyNext_values_item_raw st hr (by simpa using hi) fun h' st' sb => ?_
    have I1 : Inv X pins σ H { s with heap := h' } := I.turned (t' := s.toks) (fun b ob hb e => (sb.2 b hb).trans e) f0 f1 f3 f4 f5
    obtain ⟨oi, e, c, dd⟩ := id st'
    obtain ⟨v, _, rv⟩ := relV_all ks _ hk (i := i) (u := es[i].val) (by simp [hi])
    refine ⟨_, rfl, go_of (s := { s with heap := h' }) e c dd (by decide) ⟨v, H, I1, by simpa using rv, ⟨rfl, es[i], by simp [hi], rv⟩, st', fun b hb => (hf b hb).1⟩⟩
  done := by
    intro X hP hw hK hc i pins s σ H E I hf st hg
    subst hP hw hK
    obtain ⟨hd, hi⟩ := hg
    obtain ⟨f0, f1, f2, f3, f4, f5⟩ := hf it (by simp)
    obtain ⟨_, hr⟩ := raw_of I hd
    exact wpAny_pyNext_values_end_raw (I.ok.hd hc) st hr (by simpa using hi) fun h' eb => ⟨rfl, I.turned (t' := s.toks) (fun b ob hb e => eb b ob hb e) f0 f1 f3 f4 f5⟩
  self := fun A i s Q E st h => wpAny_pyIter_valiter st h
theorem turn_item {elts : List Expr} {kk : Nat} {tpos : Pos} (it : Addr) (ks vs : List V) (hk : Vals ks (es.map (·.key))) (hv : Vals vs (es.map (·.val))) :
    Turn P w K (.Tuple elts kk tpos) (ItI d es ep) [it] it (fun i h => ∃ ok ov, IsItemIter h it d i es.toArray.size ep ok ov) where
  mem := by simp
  obj := fun i h st b hb => by
    have e : b = it := by simpa using hb
    subst e
    obtain ⟨ok, ov, e⟩ := st
    exact ⟨_, e, fun v z => nomatch z⟩
  keep := fun i h h' st k => let ⟨ok, ov, e⟩ := st; ⟨ok, ov, k it (by simp) _ e⟩
  item := by
    intro X hP hw hK hc i pins s σ H E I hf st hg
    subst hP hw hK
    obtain ⟨hd, hi⟩ := hg
    obtain ⟨_, hr⟩ := raw_of I hd
    obtain ⟨ok, ov, he⟩ := st
    have hlt : it < s.heap.objs.size := Heap.lt_size he
    obtain ⟨x, _, rx⟩ := relV_all ks _ hk (i := i) (u := es[i].key) (by simp [hi])
    obtain ⟨y, _, ry⟩ := relV_all vs _ hv (i := i) (u := es[i].val) (by simp [hi])
    refine wpAny_pyNext_items_item_raw he hr (by simpa using hi) fun h' ho hT hz hkp => ?_
    refine ⟨_, rfl, wpAny_letOwnedTupleGo_items (s := { s with heap := h' }) ho fun h'' he' sb => ?_⟩
    have hT2 : h''.get? s.heap.objs.size = some { cls := .type "tuple", data := .seq #[es[i].key, es[i].val] } := by
      have := (sb.2 _ (Nat.ne_of_gt hlt)).trans hT
      simpa using this
    have new : ObjOk X.prog X.w (upd H s.heap.objs.size (.tup [x, y])) h'' s.heap.objs.size (.tup [x, y]) :=
      ⟨by show 2 ≤ sizeLine; decide, [es[i].key, es[i].val], .cons rx (.cons ry .nil), ⟨_, hT2, rfl, _, rfl⟩⟩
    have I1 : Inv X pins σ (upd H s.heap.objs.size (.tup [x, y])) { s with heap := h'' } :=
      I.turnedNew (t' := s.toks) (ch := [it]) (fun b ob hb e => (sb.2 b (by simpa using hb)).trans (hkp b ob (by simpa using hb) e)) hf (Nat.le_refl _) new
    refine ⟨.ref s.heap.objs.size, _, I1, rfl, ⟨_, es[i], x, y, by simp [hi], rx, ry, rfl, I.hok.fresh (Nat.le_refl _), rfl⟩, ⟨_, _, he'⟩, fun b hb => ?_⟩
    have e : b = it := by simpa using hb
    rw [e, upd_ne (Nat.ne_of_lt hlt)]
    exact (hf it (by simp)).1
  done := by
    intro X hP hw hK hc i pins s σ H E I hf st hg
    subst hP hw hK
    obtain ⟨hd, hi⟩ := hg
    obtain ⟨f0, f1, f2, f3, f4, f5⟩ := hf it (by simp)
    obtain ⟨_, hr⟩ := raw_of I hd
    obtain ⟨ok, ov, he⟩ := st
    exact wpAny_pyNext_items_end_raw (I.ok.hd hc) he hr (by simpa using hi) fun h' eb => ⟨rfl, I.turned (t' := s.toks) (fun b ob hb e => eb b ob hb e) f0 f1 f3 f4 f5⟩
  self := fun A i s Q E st h => let ⟨_, _, e⟩ := st; PySem.W.kcp_self e h
end
def iKey (td : TE) : TI := fun σ H R => td σ H fun x H1 => ∃ d es ep ks, x = .ref d ∧ Rd H1 d (DictO d es ep) ∧ Vals ks (es.map (·.key)) ∧ R (ItK d es ep) H1
def iVal (td : TE) : TI := fun σ H R => td σ H fun x H1 => ∃ d es ep ks, x = .ref d ∧ Rd H1 d (DictO d es ep) ∧ Vals ks (es.map (·.val)) ∧ R (ItV d es ep) H1
def iItem (td : TE) : TI := fun σ H R => td σ H fun x H1 => ∃ d es ep ks vs, x = .ref d ∧ Rd H1 d (DictO d es ep) ∧ Vals ks (es.map (·.key)) ∧ Vals vs (es.map (·.val)) ∧ R (ItI d es ep) H1
section
variable {X : Cx} {tg e : Expr} {td : TE} {apos cpos : Pos}
theorem raw_dict {pins : List (Addr × Obj)} {σ : L2.St} {H : Hp} {s : Shared} {d : Addr} {es : List DictEntry} {ep : Nat} (h : s.heap.DictRaw d es.toArray ep) : ∀ a, Value.ref d = .ref a → ∃ ob, s.heap.get? a = some ob ∧ ob.dict = none := by
  intro a q
  cases q
  obtain ⟨o, h1, h2, _⟩ := h
  exact ⟨o, h1, h2.2.1⟩
theorem pi_valM (he : PE X e td) (hbase : attributeBase e "values" X.env (eval e X.env) = eval e X.env) (hline : (apos.endLine == cpos.line) = true) : PI X tg (.Call (.Attribute e "values" apos) [] [] cpos) (iVal td) := by
  refine ⟨fun pins s σ H R I h => ?_⟩
  refine wpAny_Call_method (T := "dict") (id := "dict.values") hbase rfl hline F.plainAttrs_dict F.slot_dict_values F.type_dict_values (thn (he.run pins s σ H _ I h) fun u s1 ⟨x, H1, I1, rx, d, es, ep, ks, ex, hd, hk, q⟩ => ?_)
  subst ex
  obtain rfl : u = Value.ref d := rx
  obtain ⟨hs, hr⟩ := raw_of I1 hd
  refine ⟨hr.typeIs, raw_dict (pins := pins) (σ := σ) (H := H1) hr, ?_⟩
  have I2 : Inv X pins σ H1 { s1 with heap := s1.heap.push { cls := .type "dict_values", data := .fields #[.ref d] } } := I1.kept (t' := s1.toks) fun b ob q => Heap.get?_push_of_some _ q
  have fin : wpAny (model X.prog X.w) X.A (pyIter (.ref s1.heap.objs.size)) (PIE X pins σ tg R) X.xe { s1 with heap := s1.heap.push { cls := .type "dict_values", data := .fields #[.ref d] } } := by
    exact wpAny_pyIter_values_raw (d := d) ⟨_, Heap.get?_push_size _ rfl, rfl, rfl⟩ (hr.push _) (pi_one (tk := s1.toks) I2 _ (turn_val _ ks hk) ⟨_, Heap.get?_push_size _ rfl, rfl, rfl⟩ q)
  show wpAny _ _ (callWith cpos (.builtin "dict.values") [.ref d] [] []) _ X.xe s1
  exact method_meetsIn F.slot_dict_values F.entry_dict_values rfl (PySem.evalArgs_none ⟨rfl, hr.typeIs, F.args_dict_values_1 _, _, meets_dict_values_raw d hs, ⟨_, _, hr⟩, fin⟩)
theorem pi_itemM {elts : List Expr} {kk : Nat} {tpos : Pos} (he : PE X e td) (hbase : attributeBase e "items" X.env (eval e X.env) = eval e X.env) (hline : (apos.endLine == cpos.line) = true) :
    PI X (.Tuple elts kk tpos) (.Call (.Attribute e "items" apos) [] [] cpos) (iItem td) := by
  refine ⟨fun pins s σ H R I h => ?_⟩
  refine wpAny_Call_method (T := "dict") (id := "dict.items") hbase rfl hline F.plainAttrs_dict F.slot_dict_items F.type_dict_items (thn (he.run pins s σ H _ I h) fun u s1 ⟨x, H1, I1, rx, d, es, ep, ks, vs, ex, hd, hk, hv, q⟩ => ?_)
  subst ex
  obtain rfl : u = Value.ref d := rx
  obtain ⟨hs, hr⟩ := raw_of I1 hd
  refine ⟨hr.typeIs, raw_dict (pins := pins) (σ := σ) (H := H1) hr, ?_⟩
  have I2 : Inv X pins σ H1 { s1 with heap := s1.heap.push { cls := .type "dict_items", data := .fields #[.ref d] } } := I1.kept (t' := s1.toks) fun b ob q => Heap.get?_push_of_some _ q
  have fin : wpAny (model X.prog X.w) X.A (pyIter (.ref s1.heap.objs.size)) (PIE X pins σ (.Tuple elts kk tpos) R) X.xe { s1 with heap := s1.heap.push { cls := .type "dict_items", data := .fields #[.ref d] } } := by
    exact wpAny_pyIter_items_raw (d := d) ⟨_, Heap.get?_push_size _ rfl, rfl, rfl⟩ (hr.push _) (pi_one (tk := s1.toks) I2 _ (turn_item _ ks vs hk hv) ⟨.none, .none, Heap.get?_push_size _ rfl⟩ q)
  show wpAny _ _ (callWith cpos (.builtin "dict.items") [.ref d] [] []) _ X.xe s1
  exact method_meetsIn F.slot_dict_items F.entry_dict_items rfl (PySem.evalArgs_none ⟨rfl, hr.typeIs, F.args_dict_items_1 _, _, meets_dict_items_raw d hs, ⟨_, _, hr⟩, fin⟩)
/-- for k in d, by the object -/
theorem key_iter {pins : List (Addr × Obj)} {σ : L2.St} {H : Hp} {s : Shared} {d : Addr} {es : List DictEntry} {ep : Nat} {ks : List V} {R : It → Hp → Prop} (I : Inv X pins σ H s) (hd : Rd H d (DictO d es ep)) (hk : Vals ks (es.map (·.key))) (q : R (ItK d es ep) H) :
    wpAny (model X.prog X.w) X.A (pyIter (.ref d)) (PIE X pins σ tg R) X.xe s := by
  obtain ⟨hs, hr⟩ := raw_of I hd
  exact wpAny_pyIter_dict_raw hs hr (pi_one (tk := s.toks) I _ (turn_key _ ks hk) ⟨_, Heap.get?_push_size _ rfl, rfl, rfl⟩ q)
end

/-! ### enumerate of a tuple -/
section
theorem meets_enumerate_new1 {v : Value} {o : Obj} {H : Heap → Prop} (B : Begins v o H) :
    Meets (Builtin.«enumerate.__new__» ⟨[.type "enumerate", v], []⟩) (fun _ R s => H s.heap ∧
      R (.ok (.ret (.ref (s.heap.push o).objs.size))) { s with heap := (s.heap.push o).push { cls := .type "enumerate", data := .fields #[.none, .bool false, .ref s.heap.objs.size, rawInt 0, .none, .none] } }) :=
  .of_wp fun prog w A R s h => by
    obtain ⟨hp, g, d, tk, os⟩ := s; obtain ⟨h1, h⟩ := h
    have hsub := sub_enumerate
    have q1 : ∀ {A' : Around} {E : Value → Shared → Prop} {Q : Value → Shared → Prop}, Q (.ref hp.objs.size) ⟨hp.push o, g, d, tk, os⟩ → wpAny (model prog w) A' (pyIter v) Q E ⟨hp, g, d, tk, os⟩ :=
      fun q => B.iter prog w _ _ ⟨hp, g, d, tk, os⟩ _ h1 q
    wp_walk using q1
    refine wpAny_stack_any fun st => wpAny_pure ?_
    split
    · rename_i c _ _ _ _ _
      cases (c == Value.type "enumerate")
      · wp_walk using q1
        exact ⟨_, rfl, h⟩
      · wp_walk using q1
        exact ⟨_, rfl, h⟩
    · wp_walk using q1
      exact ⟨_, rfl, h⟩
variable {prog : Program} {w : World} {A : Around} {E : Value → Shared → Prop} {s : Shared}
theorem enum_begins1 {v : Value} {o : Obj} {H : Heap → Prop} {Q : Value → Shared → Prop} (B : Begins v o H) (h1 : H s.heap)
    (h : ∀ h', IsEnum h' (s.heap.objs.size + 1) s.heap.objs.size 0 .none → h'.get? s.heap.objs.size = some o → h'.objs.size = s.heap.objs.size + 2 →
      (∀ b o, s.heap.get? b = some o → h'.get? b = some o) → Q (.ref (s.heap.objs.size + 1)) { s with heap := h' }) :
    wpAny (model prog w) A (call (.type "enumerate") [v]) Q E s := by
  refine callType_new F.called_enumerate (by decide) (F.typeCall_enumerate_1 _) (F.newCall_enumerate_1 _) (fun obj => F.args_object_init_2 obj _) F.entry_enumerate_new
    (meets_enumerate_new1 B) ⟨h1, ?_⟩
  have hz : (s.heap.push o).objs.size = s.heap.objs.size + 1 := Heap.size_push ..
  show _ ∧ _
  rw [hz]
  have he : IsEnum ((s.heap.push o).push { cls := .type "enumerate", data := .fields #[.none, .bool false, .ref s.heap.objs.size, rawInt 0, .none, .none] }) (s.heap.objs.size + 1) s.heap.objs.size 0 .none := by
    have := Heap.get?_push_size (s.heap.push o) (o := { cls := .type "enumerate", data := .fields #[.none, .bool false, .ref s.heap.objs.size, rawInt 0, .none, .none] }) rfl
    rw [hz] at this; exact this
  refine ⟨⟨_, he, rfl⟩, h _ he (Heap.get?_push_of_some _ (Heap.get?_push_size _ B.free)) (by rw [Heap.size_push, hz]) fun b o x => Heap.get?_push_of_some _ (Heap.get?_push_of_some _ x)⟩
end
def IteT (K : PySem.W.Frag) (a : Addr) : It :=
  ⟨fun i H => ∃ (xs : List V) (x : V), SqT K H a xs ∧ xs[i]? = some x, fun i H v H' => ∃ T x, v = .ref T ∧ H T = none ∧ H' = upd H T (.tup [.int (i : Nat), x]) ∧ ∀ xs, SqT K H a xs → xs[i]? = some x, fun i H => ∃ xs : List V, SqT K H a xs ∧ xs.length = i⟩
theorem turn_enumT {P : Program} {w : World} {K : PySem.W.Frag} {elts : List Expr} {kk : Nat} {tpos : Pos} (a e it : Addr) :
    Turn P w K (.Tuple elts kk tpos) (IteT K a) [e, it] e (fun i h => (∃ old, IsEnum h e it ((i : Nat) : Int) old) ∧ h.IsTupleIter it a i ∧ e ≠ it ∧ a ≠ e ∧ a ≠ it) where
  mem := by simp
  obj := fun i h st b hb => by
    obtain ⟨⟨old, he⟩, ⟨o, ho, hc, hd⟩, _⟩ := st
    have e' : b = e ∨ b = it := by simpa using hb
    rcases e' with z | z
    · rw [z]; exact ⟨_, he, fun v q => nomatch q⟩
    · rw [z]; exact ⟨o, ho, fun v q => by rw [hd] at q; cases q⟩
  keep := fun i h h' st k => let ⟨⟨old, he⟩, hi, hne⟩ := st; ⟨⟨old, k e (by simp) _ he⟩, hi.at fun o q => k it (by simp) o q, hne⟩
  item := by
    intro X hP hw hK hc i pins s σ H E I hf st hg
    subst hP hw hK
    obtain ⟨⟨old, he⟩, hit, hne, hae, hai⟩ := st
    obtain ⟨xs, x, hq, hx⟩ := hg
    obtain ⟨its, rv, p, hz⟩ := I.tuple hq
    obtain ⟨u, hu, ru⟩ := rv.get hx
    have hel : e < s.heap.objs.size := Heap.lt_size he
    have hil : it < s.heap.objs.size := by obtain ⟨_, q, _⟩ := hit; exact Heap.lt_size q
    have D := Draws.tuple (prog := X.prog) (w := X.w) (A := X.A.in1) (I.ok.hd hc) it a hai its.toArray
    have hil' : i < its.toArray.size := by
      have := (List.getElem?_eq_some_iff.mp hu).1
      simpa using this
    refine wpAny_pyNext_enum_itemD D he ⟨hit, tupIs p⟩ hil' hne (by simp [hne, Ne.symm hae]) fun u' h' tk hu' ho hst hT hsz hk => ?_
    have eu : u' = u := by
      have h1 : its[i]? = some u' := by simpa using hu'
      rw [hu] at h1; exact (Option.some.inj h1).symm
    subst eu
    refine ⟨_, rfl, wpAny_letOwnedTupleGo_enum (s := { s with heap := h', toks := tk + 1 }) ho fun h'' he' sb => ?_⟩
    have hT2 : h''.get? s.heap.objs.size = some { cls := .type "tuple", data := .seq #[.int i tk, u'] } := (sb.2 _ (Nat.ne_of_gt hel)).trans hT
    have new : ObjOk X.prog X.w (upd H s.heap.objs.size (.tup [.int (i : Nat), x])) h'' s.heap.objs.size (.tup [.int (i : Nat), x]) :=
      ⟨by show 2 ≤ sizeLine; decide, [.int i tk, u'], .cons ⟨_, rfl⟩ (.cons ru .nil), ⟨_, hT2, rfl, _, rfl⟩⟩
    have I1 : Inv X pins σ (upd H s.heap.objs.size (.tup [.int (i : Nat), x])) { s with heap := h'', toks := tk + 1 } :=
      I.turnedNew (ch := [e, it]) (fun b ob hb q => (sb.2 b (fun z => hb (by simp [z]))).trans (hk b ob (fun z => hb (by simp [z])) (fun z => hb (by simp [z])) q)) hf (Nat.le_refl _) new
    refine ⟨.ref s.heap.objs.size, _, I1, rfl, ⟨_, x, rfl, I.hok.fresh (Nat.le_refl _), rfl, fun ys hy => by rw [I.tuple_inj hy hq]; exact hx⟩, ⟨⟨u', ?_⟩, hst.1.at fun o q => (sb.2 it (Ne.symm hne)).trans q, hne, hae, hai⟩, fun b hb => ?_⟩
    · have e1 : ((i + 1 : Nat) : Int) = (i : Int) + 1 := by omega
      rw [e1]; exact he'
    · have hb' : b < s.heap.objs.size := by
        have e' : b = e ∨ b = it := by simpa using hb
        rcases e' with z | z
        · rw [z]; exact hel
        · rw [z]; exact hil
      rw [upd_ne (Nat.ne_of_lt hb')]
      exact (hf b hb).1
  done := by
    intro X hP hw hK hc i pins s σ H E I hf st hg
    subst hP hw hK
    obtain ⟨⟨old, he⟩, hit, hne, hae, hai⟩ := st
    obtain ⟨xs, hq, hx⟩ := hg
    obtain ⟨its, rv, p, hz⟩ := I.tuple hq
    obtain ⟨f0, f1, f2, f3, f4, f5⟩ := hf it (by simp)
    have hl := rv.length
    have D := Draws.tuple (prog := X.prog) (w := X.w) (A := X.A.in1) (I.ok.hd hc) it a hai its.toArray
    have e1 : i = its.toArray.size := by simp; omega
    subst e1
    exact wpAny_pyNext_enum_endD D he ⟨hit, tupIs p⟩ fun h' eb => ⟨rfl, I.turned (t' := s.toks) (fun b o hb q => eb b o hb q) f0 f1 f3 f4 f5⟩
  self := fun A i s Q E st h => let ⟨⟨_, he⟩, _⟩ := st; wpAny_pyIter_enum he h
def iEnumB (K : PySem.W.Frag) (ta : TA) : TI := fun σ H R => ta σ H fun vs H1 => ∃ a, vs = [.ref a] ∧ ((∃ xs, SqL K H1 a xs ∧ R (Ite K a) H1) ∨ ∃ xs, SqT K H1 a xs ∧ R (IteT K a) H1)
theorem pi_enumB {X : Cx} {e : Expr} {ta : TA} {p pos tpos : Pos} {elts : List Expr} {kk : Nat} (hg : Gl X "enumerate") (hm : X.mg "enumerate" = none) (ha : PA X [e] ta) (hs : starEach [e] X.env = [(false, eval e X.env)]) :
    PI X (.Tuple elts kk tpos) (.Call (.Name "enumerate" p) [e] [] pos) (iEnumB X.K ta) := by
  refine ⟨fun pins s σ H R I h => ?_⟩
  refine Call_ (ld_blt I hg hm boot_enumerate (PyProof.Rows.callWith_type1 (thn (ha.run pos pins s σ H _ I h) fun us s1 ⟨vs, H1, I1, r1, q1⟩ => ?_) hs rfl))
  obtain ⟨a, ex, q⟩ := q1
  subst ex
  obtain rfl := Vals.ref1 r1
  have fin : ∀ h' : Heap, (∀ b o, s1.heap.get? b = some o → h'.get? b = some o) → ∀ b ∈ [s1.heap.objs.size + 1, s1.heap.objs.size], FpOk X pins H1 b := fun h' hk b hb => by
    have e' : b = s1.heap.objs.size + 1 ∨ b = s1.heap.objs.size := by simpa using hb
    have hle : s1.heap.objs.size ≤ b := by
      rcases e' with z | z
      · rw [z]; exact Nat.le_add_right _ _
      · rw [z]; exact Nat.le_refl _
    exact I1.fpOk hle (I1.hok.fresh hle)
  rcases q with ⟨xs, hq, q⟩ | ⟨xs, hq, q⟩
  · obtain ⟨its, rv, p', hz⟩ := I1.list hq
    refine call_enumerate_list p'.isList fun h' he hit hsz hk => wpAny_pyIter_enum he ?_
    have I2 : Inv X pins σ H1 { s1 with heap := h' } := I1.kept (t' := s1.toks) hk
    exact ⟨s1.heap.objs.size + 1, [s1.heap.objs.size + 1, s1.heap.objs.size], _, _, H1, rfl, I2, turn_enum a (s1.heap.objs.size + 1) s1.heap.objs.size, ⟨⟨.none, he⟩, hit, Nat.succ_ne_self _⟩, fin h' hk, q⟩
  · obtain ⟨its, rv, p', hz⟩ := I1.tuple hq
    refine enum_begins1 (begins_tuple a its.toArray) (tupIs p') fun h' he hit hsz hk => wpAny_pyIter_enum he ?_
    have I2 : Inv X pins σ H1 { s1 with heap := h' } := I1.kept (t' := s1.toks) hk
    have hal : a < s1.heap.objs.size := by obtain ⟨o, ho, _⟩ := p'; exact Heap.lt_size ho
    exact ⟨s1.heap.objs.size + 1, [s1.heap.objs.size + 1, s1.heap.objs.size], _, _, H1, rfl, I2, turn_enumT a (s1.heap.objs.size + 1) s1.heap.objs.size,
      ⟨⟨.none, he⟩, ⟨_, hit, rfl, rfl⟩, Nat.succ_ne_self _, Nat.ne_of_lt (Nat.lt_succ_of_lt hal), Nat.ne_of_lt hal⟩, fin h' hk, q⟩

/-! ### as the evaluator walks -/
section
variable {K : PySem.W.Frag} {mg : MG} {Z : Addr → Prop} {W : Wd} {w : List (Nat × Option MO)} {a : Addr} {kvs : List (D × D)} {xs : List D}
theorem ents_get : ∀ {kvs : List (D × D)} {es : List DictEntry} {i : Nat} {e : DictEntry}, Ents K mg W kvs es → es[i]? = some e → ∃ k x, kvs[i]? = some (k, x) ∧ (∃ a, RepD K mg W k a ∧ RelV a e.key) ∧ ∃ b, RepD K mg W x b ∧ RelV b e.val
  | _, _, i, e, .nil, h => by simp at h
  | _, _, 0, e, .cons h1 h2 h3 h4 _ _, h => by simp at h; subst h; exact ⟨_, _, rfl, ⟨_, h1, h2⟩, _, h3, h4⟩
  | _, _, i + 1, e, .cons _ _ _ _ _ r, h => by
    obtain ⟨k, x, q⟩ := ents_get (i := i) r (by simpa using h)
    exact ⟨k, x, by simpa using q⟩
def backV : Value → Option V
  | .none => some .non
  | .bool b => some (.bl b)
  | .int i _ => some (.int i)
  | .str x _ => some (.str x)
  | .bytes b _ => some (.byt b)
  | .float b _ => some (.flt b)
  | .ref a => some (.ref a)
  | .type n => some (.ty n)
  | _ => none
theorem backV_of {a : V} {u : Value} (h : RelV a u) : backV u = some a := by
  cases a <;> first | (obtain ⟨t, rfl⟩ := h; rfl) | (obtain rfl := h; rfl)
theorem relV_inj {a b : V} {u : Value} (h : RelV a u) (h' : RelV b u) : a = b := Option.some.inj ((backV_of h).symm.trans (backV_of h'))
theorem wk_key {es : List DictEntry} {ep : Nat} (z : ZOk Z W) (hs : ∀ a ∈ W.ρ, W.F a) (en : Ents K mg W kvs es) (s : ∀ W' S', ExtZ Z W W' → Rep K mg W' S' → still S' w = true → Rd W'.H a (DictO a es ep)) : Wk K mg Z W w (kvs.map (·.1)) (ItK a es ep) where
  go := fun i W' S' hi x R st => ⟨s W' S' x R st, by rw [List.length_map, en.length] at hi; exact hi⟩
  stop := fun W' S' x R st => ⟨s W' S' x R st, by rw [List.length_map, en.length]; exact Nat.le_refl _⟩
  yld := fun i W' S' x H' hi e R st y => by
    obtain ⟨rfl, en', he, rv⟩ := y
    obtain ⟨k, x', h1, ⟨b, h2, h3⟩, _⟩ := ents_get en he
    rw [relV_inj rv h3]
    exact ⟨W', k, rfl, Ext.refl W', R, by rw [List.getElem?_map, h1]; rfl, h2.extZ e z hs⟩
theorem wk_val {es : List DictEntry} {ep : Nat} (z : ZOk Z W) (hs : ∀ a ∈ W.ρ, W.F a) (en : Ents K mg W kvs es) (s : ∀ W' S', ExtZ Z W W' → Rep K mg W' S' → still S' w = true → Rd W'.H a (DictO a es ep)) : Wk K mg Z W w (kvs.map (·.2)) (ItV a es ep) where
  go := fun i W' S' hi x R st => ⟨s W' S' x R st, by rw [List.length_map, en.length] at hi; exact hi⟩
  stop := fun W' S' x R st => ⟨s W' S' x R st, by rw [List.length_map, en.length]; exact Nat.le_refl _⟩
  yld := fun i W' S' x H' hi e R st y => by
    obtain ⟨rfl, en', he, rv⟩ := y
    obtain ⟨k, x', h1, _, b, h2, h3⟩ := ents_get en he
    rw [relV_inj rv h3]
    exact ⟨W', x', rfl, Ext.refl W', R, by rw [List.getElem?_map, h1]; rfl, h2.extZ e z hs⟩
theorem wk_item {es : List DictEntry} {ep : Nat} (z : ZOk Z W) (hs : ∀ a ∈ W.ρ, W.F a) (en : Ents K mg W kvs es) (s : ∀ W' S', ExtZ Z W W' → Rep K mg W' S' → still S' w = true → Rd W'.H a (DictO a es ep)) : Wk K mg Z W w (itemsD kvs) (ItI a es ep) where
  go := fun i W' S' hi x R st => ⟨s W' S' x R st, by unfold itemsD at hi; rw [List.length_map, en.length] at hi; exact hi⟩
  stop := fun W' S' x R st => ⟨s W' S' x R st, by unfold itemsD; rw [List.length_map, en.length]; exact Nat.le_refl _⟩
  yld := fun i W' S' x H' hi e R st y => by
    obtain ⟨T, en', x, y, he, rx, ry, rfl, hn, rfl⟩ := y
    obtain ⟨k, x', h1, ⟨b, h2, h3⟩, b', h4, h5⟩ := ents_get en he
    rw [relV_inj rx h3, relV_inj ry h5]
    obtain ⟨W'', k1, k2, k3, k4⟩ := pair_new R hn (h2.extZ e z hs) (h4.extZ e z hs)
    exact ⟨W'', _, k1, k2, k3, by unfold itemsD; rw [List.getElem?_map, h1]; rfl, k4⟩
theorem wk_enumT (s : SrcT K mg Z W w a xs) : Wk K mg Z W w (enumD 0 xs) (IteT K a) where
  go := fun i W' S' hi x R st => by
    rw [enumD_length] at hi
    obtain ⟨vs, q, r⟩ := s W' S' x R st
    obtain ⟨d, v, h1, h2, _⟩ := get_both r hi
    exact ⟨vs, v, q, h2⟩
  stop := fun W' S' x R st => by
    rw [enumD_length]
    obtain ⟨vs, q, r⟩ := s W' S' x R st
    exact ⟨vs, q, r.length.symm⟩
  yld := fun i W' S' x H' hi e R st y => by
    rw [enumD_length] at hi
    obtain ⟨vs, q, r⟩ := s W' S' e R st
    obtain ⟨d, v, h1, h2, h3⟩ := get_both r hi
    obtain ⟨T, z, rfl, hn, rfl, y⟩ := y
    have := y vs q
    rw [h2] at this; cases this
    obtain ⟨W'', k1, k2, k3, k4⟩ := pair_new R hn (.int (i : Nat)) h3
    have g := enumD_get 0 xs i d h1
    rw [Nat.zero_add] at g
    exact ⟨W'', _, k1, k2, k3, g, k4⟩
end
end Ly
/-! Ly: iterators, targets. -/
namespace Ly
open PySem PySem.Spec PyProof.Rows L2 PySem.SeqAt

/-- what is walked, by the evaluator -/
def tI (K : PySem.W.Frag) (mg : MG) (E : XK) (own : List Nat) (cf : CF) (b : Bool) (k : Ik) (irs : List Ex) : TI := fun σ H R => From K mg own σ H fun W S en => Out K mg E W (evEs cf irs en S) fun ds S' W' =>
  ∃ xs, walk S' k ds = some xs ∧ ∀ J, (∀ Z, ZFor b Z W' → Wk K mg Z W' (watch S' ds) xs J) → R J W'.H
theorem pi_imp {X : Cx} {tg iter : Expr} {t t' : TI} (h : PI X tg iter t) (i : ∀ σ H R, t' σ H R → t σ H R) : PI X tg iter t' := ⟨fun pins s σ H R I q => h.run pins s σ H R I (i σ H R q)⟩
/-- a list, a tuple or a text -/
def iAny (K : PySem.W.Frag) (te : TE) : TI := fun σ H R => te σ H fun v H1 => (∃ a, v = .ref a ∧ (∃ xs, SqL K H1 a xs) ∧ R (Itl K a) H1) ∨ (∃ a, v = .ref a ∧ (∃ xs, SqT K H1 a xs) ∧ R (Itt K a) H1) ∨ (∃ x, v = .str x ∧ R (Its x) H1) ∨ ∃ d es ep ks, v = .ref d ∧ Rd H1 d (DictO d es ep) ∧ Vals ks (es.map (·.key)) ∧ R (ItK d es ep) H1
theorem pi_any {X : Cx} {tg e : Expr} {te : TE} (he : PE X e te) : PI X tg e (iAny X.K te) := by
  refine ⟨fun pins s σ H R I h => ?_⟩
  refine thn (he.run pins s σ H _ I h) fun v s1 ⟨y, H1, I1, r1, q⟩ => ?_
  rcases q with ⟨a, rfl, ⟨xs, hq⟩, q⟩ | ⟨a, rfl, ⟨xs, hq⟩, q⟩ | ⟨x, rfl, q⟩ | ⟨d, es, ep, ks, rfl, hd, hk, q⟩
  · cases r1
    obtain ⟨its, rv, p, hz⟩ := I1.list hq
    exact wpAny_pyIter_list p.isList (pi_one (tk := s1.toks) I1 _ (turn_list a _) ⟨_, Heap.get?_push_size _ rfl, rfl, rfl⟩ q)
  · cases r1
    obtain ⟨its, rv, p, hz⟩ := I1.tuple hq
    exact wpAny_pyIter_tuple (show s1.heap.IsTuple a its.toArray from p) (pi_one (tk := s1.toks) I1 _ (turn_tuple a _) ⟨_, Heap.get?_push_size _ rfl, rfl, rfl⟩ q)
  · obtain ⟨t, rfl⟩ := r1
    cases ha : x.cps.all (· < 128)
    · exact wpAny_pyIter_wide ha (pi_one (tk := s1.toks) I1 _ (turn_str _ x t "str_iterator" (.inr rfl)) ⟨_, Heap.get?_push_size _ rfl, rfl, rfl⟩ q)
    · exact wpAny_pyIter_ascii ha (pi_one (tk := s1.toks) I1 _ (turn_str _ x t "str_ascii_iterator" (.inl rfl)) ⟨_, Heap.get?_push_size _ rfl, rfl, rfl⟩ q)
  · obtain rfl : v = .ref d := r1
    exact key_iter I1 hd hk q
section
variable {K : PySem.W.Frag} {mg : MG} {W W' : Wd} {S : Sto} {d : D} {v : V} {b : Bool}
theorem watch_mem {n : Nat} : ∀ {ds : List D}, D.ref n ∈ ds → (n, S[n]?) ∈ watch S ds
  | [], h => by cases h
  | d :: ds, h => by
    rcases List.mem_cons.mp h with rfl | h
    · unfold watch
      exact List.mem_cons_self
    · have := watch_mem h
      cases d <;> first | exact this | exact List.mem_cons_of_mem _ this
theorem still_watch : ∀ ds : List D, still S (watch S ds) = true
  | [] => rfl
  | d :: ds => by
    have := still_watch ds
    cases d <;> first | exact this | skip
    unfold watch still
    rw [List.all_cons]
    simp only [decide_true, Bool.true_and]
    exact this
theorem view_str {s : Str} (h : view S d = .str s) : d = .str s := by
  cases d <;> first | exact h | skip
  unfold view at h
  repeat' (first | (cases h; done) | split at h)
theorem view_tup {s : List D} (h : view S d = .tup s) : d = .tup s := by
  cases d <;> first | exact h | skip
  unfold view at h
  repeat' (first | (cases h; done) | split at h)
theorem items_ref {n : Nat} {xs : List D} (h : walk S .ex [.ref n] = some xs) : view S (.ref n) = .lst xs := by
  have h : (match view S (.ref n) with | .lst xs => some xs | _ => none) = some xs := h
  split at h
  · rename_i e; cases h; exact e
  · cases h
theorem items_val {xs : List D} (hn : ∀ n, d ≠ .ref n) (h : walk S .ex [d] = some xs) : items d = some xs := by
  cases d <;> first | exact h | exact absurd rfl (hn _)
/-- a dict that is walked -/
theorem src_dctM {Z : Addr → Prop} {w : List (Nat × Option MO)} {kvs : List (D × D)} (z : ZFor b Z W) (R : Rep K mg W S) (h : RepM b K mg W (.dct kvs) v) : ∃ a, v = .ref a ∧ SrcD K mg Z W w a kvs := by
  cases b with
  | true => exact src_dctB z R h (show view S (.dct kvs) = .dct kvs from rfl) fun n e => by cases e
  | false => exact src_dct z R h (show view S (.dct kvs) = .dct kvs from rfl) fun n e => by cases e
theorem ents_eq {W : Wd} {a : Addr} {kvs kvs' : List (D × D)} : kvs = kvs' → kvs = kvs' := fun h => h
/-- no place -/
theorem zfor_none : ZFor b (fun _ => False) W := by
  unfold ZFor
  split
  · exact fun _ h => h.elim
  · exact fun _ h => h.elim
theorem zfor_nil {Z : Addr → Prop} : ZFor b (fun _ => False) W := zfor_none
theorem repMs_cons {ds : List D} {vs : List V} (h : RepMs b K mg W (d :: ds) vs) : ∃ v r, vs = v :: r ∧ RepM b K mg W d v ∧ RepMs b K mg W ds r := by
  cases b with
  | true =>
    have k : RepBs K mg W (d :: ds) vs := h
    clear h
    cases k with
    | cons l r => exact ⟨_, _, rfl, l, r⟩
  | false =>
    have k : RepDs K mg W (d :: ds) vs := h
    clear h
    cases k with
    | cons l r => exact ⟨_, _, rfl, l, r⟩
theorem repMs_nil {vs : List V} (h : RepMs b K mg W [] vs) : vs = [] := by
  cases b with
  | true => cases (show RepBs K mg W [] vs from h); rfl
  | false => cases (show RepDs K mg W [] vs from h); rfl
end
section
variable {CXx : CXT} {G : Glob} {P : Prog} {k : Nat} {N : List Str} {E : XK} {bl : Bl} {X : Cx} {own : List Nat} {ob : Bool}
theorem lst_go {σ : L2.St} {H : Hp} {R : It → Hp → Prop} {W1 : Wd} {S1 : Sto} {d : D} {v : V} {xs : List D} (R1 : Rep X.K X.mgw W1 S1) (hv : RepM ob X.K X.mgw W1 d v) (e : view S1 d = .lst xs) (q : ∀ J, (∀ Z, ZFor ob Z W1 → Wk X.K X.mgw Z W1 (watch S1 [d]) xs J) → R J W1.H) :
    ∃ a, v = .ref a ∧ (∃ xs, SqL X.K W1.H a xs) ∧ R (Itl X.K a) W1.H := by
  have hm : ∀ n, d = .ref n → (n, S1[n]?) ∈ watch S1 [d] := fun n hn => watch_mem (by rw [hn]; exact List.mem_cons_self)
  obtain ⟨a, rfl, sq, _⟩ := src_lst (Z := fun _ => False) zfor_none R1 hv hm e
  refine ⟨a, rfl, sq, q _ fun Z z => ?_⟩
  obtain ⟨a', ea, _, s⟩ := src_lst z R1 hv hm e
  cases ea
  exact wk_list s
theorem dct_go {R : It → Hp → Prop} {W1 : Wd} {S1 : Sto} {v : V} {kvs : List (D × D)} (f : List (D × D) → List D) (It' : Addr → List DictEntry → Nat → It) (R1 : Rep X.K X.mgw W1 S1) (hv : RepM ob X.K X.mgw W1 (.dct kvs) v)
    (wk : ∀ (Z : Addr → Prop) (a : Addr) (es : List DictEntry) (ep : Nat), ZOk Z W1 → Ents X.K X.mgw W1 kvs es → (∀ W' S', ExtZ Z W1 W' → Rep X.K X.mgw W' S' → still S' (watch S1 [.dct kvs]) = true → Rd W'.H a (DictO a es ep)) → Wk X.K X.mgw Z W1 (watch S1 [.dct kvs]) (f kvs) (It' a es ep))
    (q : ∀ J, (∀ Z, ZFor ob Z W1 → Wk X.K X.mgw Z W1 (watch S1 [.dct kvs]) (f kvs) J) → R J W1.H) :
    ∃ d es ep ks vs, v = .ref d ∧ Rd W1.H d (DictO d es ep) ∧ Vals ks (es.map (·.key)) ∧ Vals vs (es.map (·.val)) ∧ R (It' d es ep) W1.H := by
  have key : ∀ Z, ZFor ob Z W1 → ∃ a es ep, v = .ref a ∧ Ents X.K X.mgw W1 kvs es ∧ Rd W1.H a (DictO a es ep) ∧ ∀ W' S', ExtZ Z W1 W' → Rep X.K X.mgw W' S' → still S' (watch S1 [.dct kvs]) = true → Rd W'.H a (DictO a es ep) := by
    intro Z z
    obtain ⟨a, e, es, ep, k1, _, k3, k4⟩ := src_dctM (w := watch S1 [.dct kvs]) z R1 hv
    exact ⟨a, es, ep, e, k1, k3, k4⟩
  obtain ⟨a, es, ep, rfl, k1, k3, _⟩ := key (fun _ => False) zfor_none
  obtain ⟨ks, vs, _, p2, _, p4⟩ := Ents.parts (X := X) k1
  refine ⟨a, es, ep, ks, vs, rfl, k3, p2, p4, q _ fun Z z => ?_⟩
  obtain ⟨a', es', ep', ea, l1, l3, l4⟩ := key Z z
  cases ea
  have e1 : DictO a es ep = DictO a es' ep' := by
    rcases k3 with h | ⟨o, h⟩
    · rcases l3 with h' | ⟨o', h'⟩
      · rw [h] at h'; exact Option.some.inj h'
      · rw [h] at h'; cases h'
    · rcases l3 with h' | ⟨o', h'⟩
      · rw [h] at h'; cases h'
      · rw [h] at h'; injection h' with h'; injection h'
  refine wk Z a es ep z.ok k1 fun W' S' x R' st => ?_
  rw [e1]
  exact l4 W' S' x R' st
theorem snd_it {tg e : Expr} {ir : Ex} (h : PE X e (tE X.K X.mgw E own (callP P k) ob ir)) : PI X tg e (tI X.K X.mgw E own (callP P k) ob .ex [ir]) := by
  refine pi_imp (pi_any h) fun σ H R q => ?_
  obtain ⟨W, S, en, rfl, Rp, rr, q⟩ := q
  rw [evEs] at q
  refine tE_of Rp rr (q.bind.mono fun d S1 W1 x1 R1 q1 v hv rr1 _ => ?_)
  rw [evEs] at q1
  obtain ⟨xs, hw, q⟩ := q1 W1 (Ext.refl W1) R1
  by_cases hr : ∃ n, d = .ref n
  · obtain ⟨n, rfl⟩ := hr
    exact .inl (lst_go (σ := σ) (H := W1.H) R1 hv (items_ref hw) q)
  have hn : ∀ n, d ≠ .ref n := fun n e => hr ⟨n, e⟩
  replace hw := items_val hn hw
  unfold items at hw
  split at hw
  · cases hw
    have e : view S1 (.tup xs) = .tup xs := rfl
    obtain ⟨a, rfl, sq, _⟩ := src_tup (Z := fun _ => False) (w := watch S1 [D.tup xs]) zfor_none R1 hv e
    refine .inr (.inl ⟨a, rfl, sq, q _ fun Z z => ?_⟩)
    obtain ⟨a', ea, _, s⟩ := src_tup (w := watch S1 [D.tup xs]) z R1 hv e
    cases ea
    exact wk_tup s
  · cases hw
    exact .inl (lst_go (σ := σ) (H := W1.H) R1 hv rfl q)
  · rename_i s
    split at hw
    · cases hw
      obtain rfl := hv.b.str_inv
      exact .inr (.inr (.inl ⟨s, rfl, q _ fun Z z => wk_str⟩))
    · cases hw
  · rename_i kvs
    cases hw
    obtain ⟨d, es, ep, ks, vs, h1, h2, h3, h4, h5⟩ := dct_go (·.map (·.1)) ItK R1 hv (fun Z a es ep z en s => wk_key z R1.sub en s) q
    exact .inr (.inr (.inr ⟨d, es, ep, ks, h1, h2, h3, h5⟩))
  · cases hw
theorem snd_items (g : Good CXx G P k N E bl X) {o : Expr} {ir : Ex} {es : List Expr} {kk : Nat} {tpos apos pos : Pos} (hb : notCall o = true) (hl : oneLine apos pos = true) (h : PE X o (tE X.K X.mgw E own (callP P k) ob ir)) :
    PI X (.Tuple es kk tpos) (.Call (.Attribute o "items" apos) [] [] pos) (tI X.K X.mgw E own (callP P k) ob .items [ir]) := by
  refine pi_imp (pi_itemM h (base_plain hb) hl) fun σ H R q => ?_
  obtain ⟨W, S, en, rfl, Rp, rr, q⟩ := q
  rw [evEs] at q
  refine tE_of Rp rr (q.bind.mono fun d S1 W1 x1 R1 q1 v hv rr1 _ => ?_)
  rw [evEs] at q1
  obtain ⟨xs, hw, q⟩ := q1 W1 (Ext.refl W1) R1
  cases d <;> first | (cases hw; done) | skip
  rename_i kvs
  have hw : some (itemsD kvs) = some xs := hw
  cases hw
  exact dct_go itemsD ItI R1 hv (fun Z a es ep z en s => wk_item z R1.sub en s) q
theorem snd_values (g : Good CXx G P k N E bl X) {o tg : Expr} {ir : Ex} {apos pos : Pos} (hb : notCall o = true) (hl : oneLine apos pos = true) (h : PE X o (tE X.K X.mgw E own (callP P k) ob ir)) :
    PI X tg (.Call (.Attribute o "values" apos) [] [] pos) (tI X.K X.mgw E own (callP P k) ob .values [ir]) := by
  refine pi_imp (pi_valM h (base_plain hb) hl) fun σ H R q => ?_
  obtain ⟨W, S, en, rfl, Rp, rr, q⟩ := q
  rw [evEs] at q
  refine tE_of Rp rr (q.bind.mono fun d S1 W1 x1 R1 q1 v hv rr1 _ => ?_)
  rw [evEs] at q1
  obtain ⟨xs, hw, q⟩ := q1 W1 (Ext.refl W1) R1
  cases d <;> first | (cases hw; done) | skip
  rename_i kvs
  have hw : some (kvs.map (·.2)) = some xs := hw
  cases hw
  obtain ⟨d, es, ep, ks, vs, h1, h2, h3, h4, h5⟩ := dct_go (·.map (·.2)) ItV R1 hv (fun Z a es ep z en s => wk_val z R1.sub en s) q
  exact ⟨d, es, ep, vs, h1, h2, h4, h5⟩
theorem intOk_inv {i : Int} (h : intOk i = true) : -(2 ^ 62) ≤ i ∧ i < 2 ^ 62 := by
  unfold intOk at h
  simpa using h
theorem walk_range_inv {S : Sto} {ds xs : List D} (h : walk S .range ds = some xs) : rangeOf ds = some xs := by
  unfold walk at h
  obtain ⟨ys, h1, h2⟩ := bind_some h
  split at h2
  · cases h2; exact h1
  · cases h2
theorem Out.eq {α : Type} {K : PySem.W.Frag} {mg : MG} {W : Wd} {r : Re α} {R : α → Sto → Wd → Prop} (h : Out K mg E W r R) : Out K mg E W r fun a S W' => r = .ok a S ∧ R a S W' := by
  cases r with
  | ok a S => exact fun W' x k => ⟨rfl, h W' x k⟩
  | exc c fs S => exact h
  | bad => exact h
theorem bind_ok {α β : Type} {r : Re α} {f : α → Sto → Re β} {b : β} {S : Sto} (h : r.bind f = .ok b S) : ∃ a S', r = .ok a S' ∧ f a S' = .ok b S := by
  cases r with
  | ok a S' => exact ⟨a, S', rfl, h⟩
  | exc c fs S' => cases h
  | bad => cases h
theorem evEs_len {cf : CF} {en : Env} : ∀ {es : List Ex} {S S' : Sto} {ds : List D}, evEs cf es en S = .ok ds S' → ds.length = es.length
  | [], S, S', ds, h => by rw [evEs] at h; cases h; rfl
  | e :: es, S, S', ds, h => by
    rw [evEs] at h
    obtain ⟨x, S1, h1, h⟩ := bind_ok h
    obtain ⟨xs, S2, h2, h⟩ := bind_ok h
    cases h
    rw [List.length_cons, List.length_cons, evEs_len h2]
theorem wk_rangeN {K : PySem.W.Frag} {mg : MG} {Z : Addr → Prop} {W : Wd} {w : List (Nat × Option MO)} {i j : Int} : Wk K mg Z W w (rangeN i j) (Itc i (-1) (i - j).toNat) where
  go := fun n W' S' h x R st => by
    have : n < (i - j).toNat := by simpa [rangeN] using h
    exact this
  stop := fun W' S' x R st => by show _ ≤ _; simp [rangeN]
  yld := fun n W' S' x H' h e R st y => by
    obtain ⟨rfl, rfl⟩ := y
    have h : n < (i - j).toNat := by simpa [rangeN] using h
    refine ⟨W', .int (i + n * (-1)), rfl, Ext.refl W', R, ?_, .int _⟩
    simp [rangeN, h]
theorem snd_range1 (g : Good CXx G P k N E bl X) {tg a : Expr} {ia : Ex} {p pos : Pos} (hg : Ly.gl bl.sc ("range" : Str) = true) (hf : ("range" : Str) ∈ G.free) (ns : noStar a = true) (h : PA X [a] (tEs X.K X.mgw E own (callP P k) false [ia])) :
    PI X tg (.Call (.Name "range" p) [a] [] pos) (tI X.K X.mgw E own (callP P k) ob .range [ia]) := by
  refine pi_imp (pi_range1 (g.gl hg) (g.free _ hf) h (star_cons ns)) fun σ H R q => ?_
  obtain ⟨W, S, en, rfl, Rp, rr, q⟩ := q
  refine ⟨W, S, en, rfl, Rp, rr, q.eq.mono fun ds S1 W1 x1 R1 q1 vs hvs => ?_⟩
  obtain ⟨eq, xs, hw, q⟩ := q1
  have hl := evEs_len eq
  have hw := walk_range_inv hw
  unfold rangeOf at hw
  split at hw
  · rename_i j _
    split at hw
    · rename_i hj
      cases hw
      obtain ⟨v, r, rfl, hv, hr⟩ := repMs_cons hvs
      obtain rfl := repMs_nil hr
      obtain rfl := hv.b.int_inv
      obtain ⟨j1, j2⟩ := intOk_inv hj
      refine ⟨j, rfl, j1, j2, q _ fun Z z => ?_⟩
      have e : j.toNat = (j - 0).toNat := by rw [Int.sub_zero]
      rw [e]
      exact wk_range
    · cases hw
  · simp at hl
  · simp at hl
  · cases hw
theorem snd_range2 (g : Good CXx G P k N E bl X) {tg a c : Expr} {ia ic : Ex} {p pos : Pos} (hg : Ly.gl bl.sc ("range" : Str) = true) (hf : ("range" : Str) ∈ G.free) (ns : noStar a = true) (ns2 : noStar c = true) (h : PA X [a, c] (tEs X.K X.mgw E own (callP P k) false [ia, ic])) :
    PI X tg (.Call (.Name "range" p) [a, c] [] pos) (tI X.K X.mgw E own (callP P k) ob .range [ia, ic]) := by
  refine pi_imp (pi_range2 (g.gl hg) (g.free _ hf) h (by rw [star_cons ns, star_cons ns2]; rfl) (star_cons ns2)) fun σ H R q => ?_
  obtain ⟨W, S, en, rfl, Rp, rr, q⟩ := q
  refine ⟨W, S, en, rfl, Rp, rr, q.eq.mono fun ds S1 W1 x1 R1 q1 vs hvs => ?_⟩
  obtain ⟨eq, xs, hw, q⟩ := q1
  have hl := evEs_len eq
  have hw := walk_range_inv hw
  unfold rangeOf at hw
  split at hw
  · simp at hl
  · rename_i i j _
    split at hw
    · rename_i hj
      cases hw
      obtain ⟨v, r, rfl, hv, hr⟩ := repMs_cons hvs
      obtain ⟨v', r', rfl, hv', hr'⟩ := repMs_cons hr
      obtain rfl := repMs_nil hr'
      obtain rfl := hv.b.int_inv
      obtain rfl := hv'.b.int_inv
      have hj := Bool.and_eq_true_iff.mp hj
      obtain ⟨i1, i2⟩ := intOk_inv hj.1
      obtain ⟨j1, j2⟩ := intOk_inv hj.2
      exact ⟨i, j, rfl, ⟨i1, i2, j1, j2⟩, q _ fun Z z => wk_range⟩
    · cases hw
  · simp at hl
  · cases hw
theorem snd_range3 (g : Good CXx G P k N E bl X) {tg a c d : Expr} {ia ic id : Ex} {p pos : Pos} (hg : Ly.gl bl.sc ("range" : Str) = true) (hf : ("range" : Str) ∈ G.free) (ns : noStar a = true) (ns2 : noStar c = true) (ns3 : noStar d = true) (h : PA X [a, c, d] (tEs X.K X.mgw E own (callP P k) false [ia, ic, id])) :
    PI X tg (.Call (.Name "range" p) [a, c, d] [] pos) (tI X.K X.mgw E own (callP P k) ob .range [ia, ic, id]) := by
  refine pi_imp (pi_range3 (g.gl hg) (g.free _ hf) h (star_cons ns) (star_any fun y hy => ?_)) fun σ H R q => ?_
  · rcases List.mem_cons.mp hy with rfl | hy
    · exact ns2
    · rw [List.mem_singleton.mp hy]; exact ns3
  obtain ⟨W, S, en, rfl, Rp, rr, q⟩ := q
  refine ⟨W, S, en, rfl, Rp, rr, q.eq.mono fun ds S1 W1 x1 R1 q1 vs hvs => ?_⟩
  obtain ⟨eq, xs, hw, q⟩ := q1
  have hl := evEs_len eq
  have hw := walk_range_inv hw
  unfold rangeOf at hw
  split at hw
  · simp at hl
  · simp at hl
  · rename_i i j c _
    split at hw
    · rename_i hj
      cases hw
      obtain ⟨v, r, rfl, hv, hr⟩ := repMs_cons hvs
      obtain ⟨v', r', rfl, hv', hr'⟩ := repMs_cons hr
      obtain ⟨v'', r'', rfl, hv'', hr''⟩ := repMs_cons hr'
      obtain rfl := repMs_nil hr''
      obtain rfl := hv.b.int_inv
      obtain rfl := hv'.b.int_inv
      obtain rfl := hv''.b.int_inv
      have hj := Bool.and_eq_true_iff.mp hj
      have hc : c = -1 := by simpa using hj.2
      have hk := Bool.and_eq_true_iff.mp hj.1
      subst hc
      obtain ⟨i1, i2⟩ := intOk_inv hk.1
      obtain ⟨j1, j2⟩ := intOk_inv hk.2
      exact ⟨i, j, -1, _, rfl, RgC.neg i1 i2 j1 j2, q _ fun Z z => wk_rangeN⟩
    · cases hw
  · cases hw
theorem snd_enum (g : Good CXx G P k N E bl X) {a : Expr} {ia : Ex} {es : List Expr} {kk : Nat} {tpos p pos : Pos} (hg : Ly.gl bl.sc ("enumerate" : Str) = true) (hf : ("enumerate" : Str) ∈ G.free) (ns : noStar a = true) (h : PA X [a] (tEs X.K X.mgw E own (callP P k) ob [ia])) :
    PI X (.Tuple es kk tpos) (.Call (.Name "enumerate" p) [a] [] pos) (tI X.K X.mgw E own (callP P k) ob .enum [ia]) := by
  refine pi_imp (pi_enumB (g.gl hg) (g.free _ hf) h (star_cons ns)) fun σ H R q => ?_
  obtain ⟨W, S, en, rfl, Rp, rr, q⟩ := q
  refine ⟨W, S, en, rfl, Rp, rr, q.eq.mono fun ds S1 W1 x1 R1 q1 vs hvs => ?_⟩
  obtain ⟨eq, xs, hw, q⟩ := q1
  have hl := evEs_len eq
  match ds, hl with
  | [d], _ =>
    obtain ⟨v, r, rfl, hv, hr⟩ := repMs_cons hvs
    obtain rfl := repMs_nil hr
    have hw : (match view S1 d with | .lst xs => some (enumD 0 xs) | .tup xs => some (enumD 0 xs) | _ => none) = some xs := hw
    split at hw
    · rename_i ys e
      cases hw
      have hm : ∀ n, d = .ref n → (n, S1[n]?) ∈ watch S1 [d] := fun n hn => watch_mem (by rw [hn]; exact List.mem_cons_self)
      obtain ⟨a, rfl, ⟨us, sq⟩, _⟩ := src_lst (Z := fun _ => False) zfor_none R1 hv hm e
      refine ⟨a, rfl, .inl ⟨us, sq, q _ fun Z z => ?_⟩⟩
      obtain ⟨a', ea, _, s⟩ := src_lst z R1 hv hm e
      cases ea
      exact wk_enum s
    · rename_i ys e
      cases hw
      obtain ⟨a, rfl, ⟨us, sq⟩, _⟩ := src_tup (Z := fun _ => False) (w := watch S1 [d]) zfor_none R1 hv e
      refine ⟨a, rfl, .inr ⟨us, sq, q _ fun Z z => ?_⟩⟩
      obtain ⟨a', ea, _, s⟩ := src_tup (w := watch S1 [d]) z R1 hv e
      cases ea
      exact wk_enumT s
    · cases hw
theorem snd_zip (g : Good CXx G P k N E bl X) {a c : Expr} {ia ic : Ex} {es : List Expr} {kk : Nat} {tpos p pos : Pos} (hg : Ly.gl bl.sc ("zip" : Str) = true) (hf : ("zip" : Str) ∈ G.free) (ns : noStar a = true) (ns2 : noStar c = true) (h : PA X [a, c] (tEs X.K X.mgw E own (callP P k) ob [ia, ic])) :
    PI X (.Tuple es kk tpos) (.Call (.Name "zip" p) [a, c] [] pos) (tI X.K X.mgw E own (callP P k) ob .zip [ia, ic]) := by
  refine pi_imp (RZ.pi_zipA (g.gl hg) (g.free _ hf) h (star_cons ns) (star_any fun y hy => by rw [List.mem_singleton.mp hy]; exact ns2)) fun σ H R q => ?_
  obtain ⟨W, S, en, rfl, Rp, rr, q⟩ := q
  refine ⟨W, S, en, rfl, Rp, rr, q.eq.mono fun ds S1 W1 x1 R1 q1 vs hvs => ?_⟩
  obtain ⟨eq, xs, hw, q⟩ := q1
  have hl := evEs_len eq
  match ds, hl with
  | [d, e], _ =>
    obtain ⟨v, r, rfl, hv, hr⟩ := repMs_cons hvs
    obtain ⟨v', r', rfl, hv', hr'⟩ := repMs_cons hr
    obtain rfl := repMs_nil hr'
    have hw : (match view S1 d, view S1 e with | .lst xs, .lst ys => some (zipD xs ys) | .tup xs, .tup ys => some (zipD xs ys) | _, _ => none) = some xs := hw
    split at hw
    · rename_i ys zs e1 e2
      cases hw
      have hm : ∀ n, d = .ref n → (n, S1[n]?) ∈ watch S1 [d, e] := fun n hn => watch_mem (by rw [hn]; exact List.mem_cons_self)
      have hm2 : ∀ n, e = .ref n → (n, S1[n]?) ∈ watch S1 [d, e] := fun n hn => watch_mem (by rw [hn]; exact List.mem_cons_of_mem _ List.mem_cons_self)
      obtain ⟨a, rfl, ⟨us, sq⟩, _⟩ := src_lst (Z := fun _ => False) zfor_none R1 hv hm e1
      obtain ⟨a2, rfl, ⟨us2, sq2⟩, _⟩ := src_lst (Z := fun _ => False) zfor_none R1 hv' hm2 e2
      refine ⟨a, a2, us, us2, rfl, .inl ⟨sq, sq2, q _ fun Z z => ?_⟩⟩
      obtain ⟨a', ea, _, s⟩ := src_lst z R1 hv hm e1
      cases ea
      obtain ⟨a', ea, _, s2⟩ := src_lst z R1 hv' hm2 e2
      cases ea
      exact wk_zip s s2
    · rename_i ys zs e1 e2
      cases hw
      obtain ⟨a, rfl, ⟨us, sq⟩, _⟩ := src_tup (Z := fun _ => False) (w := watch S1 [d, e]) zfor_none R1 hv e1
      obtain ⟨a2, rfl, ⟨us2, sq2⟩, _⟩ := src_tup (Z := fun _ => False) (w := watch S1 [d, e]) zfor_none R1 hv' e2
      refine ⟨a, a2, us, us2, rfl, .inr ⟨sq, sq2, q _ fun Z z => ?_⟩⟩
      obtain ⟨a', ea, _, s⟩ := src_tup (w := watch S1 [d, e]) z R1 hv e1
      cases ea
      obtain ⟨a', ea, _, s2⟩ := src_tup (w := watch S1 [d, e]) z R1 hv' e2
      cases ea
      exact wk_zipT s s2
    · cases hw
/-- what is walked, from the text -/
theorem snd_iter (g : Good CXx G P k N E bl X) {cE' : Bool → Bl → Expr → Option Ex} (st : ∀ ob e ir, cE' ob bl e = some ir → noStar e = true) (ih : ∀ ob e ir, cE' ob bl e = some ir → Snd own P k E X ob e ir) {tg iter : Expr} {kk : Ik} {irs : List Ex} (h : cI G cE' ob (isTup tg) bl iter = some (kk, irs)) :
    PI X tg iter (tI X.K X.mgw E own (callP P k) ob kk irs) ∧ ∀ x, foldedSetIterable iter X.env x = pure x := by
  have one : ∀ {ob' : Bool} {a : Expr} {ia : Ex}, cE' ob' bl a = some ia → PA X [a] (tEs X.K X.mgw E own (callP P k) ob' [ia]) := fun {ob' a ia} h => (snd_args g (st ob') (ih ob') [a] [ia] (by unfold cArgs cArgs; rw [h]; rfl)).1
  have two : ∀ {ob' : Bool} {a c : Expr} {ia ic : Ex}, cE' ob' bl a = some ia → cE' ob' bl c = some ic → PA X [a, c] (tEs X.K X.mgw E own (callP P k) ob' [ia, ic]) := fun {ob' a c ia ic} h h2 => (snd_args g (st ob') (ih ob') [a, c] [ia, ic] (by unfold cArgs cArgs cArgs; rw [h, h2]; rfl)).1
  have three : ∀ {ob' : Bool} {a c d : Expr} {ia ic id : Ex}, cE' ob' bl a = some ia → cE' ob' bl c = some ic → cE' ob' bl d = some id → PA X [a, c, d] (tEs X.K X.mgw E own (callP P k) ob' [ia, ic, id]) := fun {ob' a c d ia ic id} h h2 h3 => (snd_args g (st ob') (ih ob') [a, c, d] [ia, ic, id] (by unfold cArgs cArgs cArgs cArgs; rw [h, h2, h3]; rfl)).1
  unfold cI at h
  split at h
  · rename_i x p args pos
    refine ⟨?_, fun _ => rfl⟩
    split at h
    · rename_i hc
      simp only [Bool.and_eq_true, decide_eq_true_eq] at hc
      obtain ⟨⟨⟨h1, h2⟩, h3⟩, rfl⟩ := hc
      split at h
      · obtain ⟨ia, e, h⟩ := map_some h
        cases h
        exact snd_range1 g h1 h3 (st _ _ _ e) (one e)
      · obtain ⟨ia, e, h⟩ := bind_some h
        obtain ⟨ic, e2, h⟩ := map_some h
        cases h
        exact snd_range2 g h1 h3 (st _ _ _ e) (st _ _ _ e2) (two e e2)
      · obtain ⟨ia, e, h⟩ := bind_some h
        obtain ⟨ic, e2, h⟩ := bind_some h
        obtain ⟨id, e3, h⟩ := map_some h
        cases h
        exact snd_range3 g h1 h3 (st _ _ _ e) (st _ _ _ e2) (st _ _ _ e3) (three e e2 e3)
      · cases h
    split at h
    · rename_i hc
      simp only [Bool.and_eq_true, decide_eq_true_eq] at hc
      obtain ⟨⟨⟨⟨h1, h2⟩, h3⟩, rfl⟩, h4⟩ := hc
      split at h
      · obtain ⟨ia, e, h⟩ := bind_some h
        obtain ⟨ic, e2, h⟩ := map_some h
        cases h
        cases tg <;> first | (cases h4; done) | skip
        exact snd_zip g h1 h3 (st _ _ _ e) (st _ _ _ e2) (two e e2)
      · cases h
    split at h
    · rename_i hc
      simp only [Bool.and_eq_true, decide_eq_true_eq] at hc
      obtain ⟨⟨⟨⟨h1, h2⟩, h3⟩, rfl⟩, h4⟩ := hc
      split at h
      · obtain ⟨ia, e, h⟩ := map_some h
        cases h
        cases tg <;> first | (cases h4; done) | skip
        exact snd_enum g h1 h3 (st _ _ _ e) (one e)
      · cases h
    · obtain ⟨ia, e, h⟩ := map_some h
      cases h
      exact snd_it (ih _ _ _ e).1
  · rename_i o m apos pos
    refine ⟨?_, fun _ => rfl⟩
    split at h
    · rename_i hc
      simp only [Bool.and_eq_true, decide_eq_true_eq] at hc
      obtain ⟨⟨⟨rfl, h2⟩, h3⟩, h4⟩ := hc
      obtain ⟨ia, e, h⟩ := map_some h
      cases h
      cases tg <;> first | (cases h2; done) | skip
      exact snd_items g h4 h3 (ih _ _ _ e).1
    split at h
    · rename_i hc
      simp only [Bool.and_eq_true, decide_eq_true_eq] at hc
      obtain ⟨⟨rfl, h3⟩, h4⟩ := hc
      obtain ⟨ia, e, h⟩ := map_some h
      cases h
      exact snd_values g h4 h3 (ih _ _ _ e).1
    · obtain ⟨ia, e, h⟩ := map_some h
      cases h
      exact snd_it (ih _ _ _ e).1
  · cases h
  · rename_i _ hx
    obtain ⟨ia, e, h⟩ := map_some h
    cases h
    refine ⟨snd_it (ih _ _ _ e).1, fun x => ?_⟩
    cases iter <;> first | rfl | exact (hx _ _ _ rfl).elim
end
end Ly
/-! Ly: targets, list comprehensions. -/
namespace Ly
open PySem PySem.Spec PyProof.Rows L2 PySem.SeqAt

/-! ### slots -/
section
variable {K : PySem.W.Frag} {mg : MG} {own : List Nat} {Z : Addr → Prop} {W W' : Wd} {en : Env} {σ : L2.St} {S : Sto}
theorem REnv.put {i : Nat} {d : D} {v : V} (r : REnv K mg own W en σ) (ho : i ∉ own) (h : RepD K mg W d v) : REnv K mg own W (en.set i (some d)) (σ.set i (some v)) where
  len := by rw [List.length_set, List.length_set, r.len]
  val := fun j e he hj => by
    by_cases hij : i = j
    · subst hij
      rw [List.getElem?_set] at he ⊢
      rw [if_pos rfl] at he ⊢
      split at he
      · rename_i hl
        cases he
        rw [if_pos (by rw [← r.len]; exact hl)]
        exact ⟨v, rfl, h⟩
      · cases he
    · rw [List.getElem?_set_ne hij] at he ⊢
      exact r.val j e he hj
  mine := fun j e he hj => by
    have hij : i ≠ j := fun q => ho (q ▸ hj)
    rw [List.getElem?_set_ne hij] at he ⊢
    exact r.mine j e he hj
  apart := fun j l d e a b hj hl hne h1 h2 h3 h4 => by
    have hij : i ≠ j := fun q => ho (q ▸ hj)
    have hil : i ≠ l := fun q => ho (q ▸ hl)
    rw [List.getElem?_set_ne hij] at h1 h3
    rw [List.getElem?_set_ne hil] at h2 h4
    exact r.apart j l d e a b hj hl hne h1 h2 h3 h4
/-- where Z leaves the own lists -/
theorem REnv.extZ (r : REnv K mg own W en σ) (x : ExtZ Z W W') (z : ZOk Z W) (hs : ∀ a ∈ W.ρ, W.F a) (hz : ∀ i d a, i ∈ own → en[i]? = some (some d) → σ[i]? = some (some (.ref a)) → ¬ Z a) : REnv K mg own W' en σ where
  len := r.len
  val := fun i d h n => let ⟨v, h1, h2⟩ := r.val i d h n; ⟨v, h1, h2.extZ x z hs⟩
  mine := fun i d h n => by
    obtain ⟨a, h1, h2, h3, h4⟩ := r.mine i d h n
    exact ⟨a, h1, h2.extZ x z hs h4 (hz i d a n h h1), x.fsub _ h3, h2.notρZ x h4⟩
  apart := r.apart
theorem wipe_get (σ : L2.St) : ∀ (vs : List Nat) (i : Nat), (wipe σ vs)[i]? = if i ∈ vs then σ[i]?.map (fun _ => none) else σ[i]?
  | [], i => by simp [wipe]
  | v :: vs, i => by
    unfold wipe
    by_cases h : v = i
    · subst h
      rw [List.getElem?_set, if_pos rfl, if_pos List.mem_cons_self]
      split
      · rename_i hl
        rw [wipe_length] at hl
        rw [List.getElem?_eq_getElem hl]; rfl
      · rename_i hl
        rw [wipe_length] at hl
        rw [List.getElem?_eq_none (by omega)]; rfl
    · rw [List.getElem?_set_ne h, wipe_get σ vs i]
      by_cases hi : i ∈ vs
      · rw [if_pos hi, if_pos (List.mem_cons_of_mem _ hi)]
      · rw [if_neg hi, if_neg (fun q => (List.mem_cons.mp q).elim (fun e => h e.symm) hi)]
theorem wipeE_length (en : Env) : ∀ vs : List Nat, (wipeE en vs).length = en.length
  | [] => rfl
  | v :: vs => by unfold wipeE; rw [List.length_set, wipeE_length en vs]
theorem wipeE_get (en : Env) : ∀ (vs : List Nat) (i : Nat), (wipeE en vs)[i]? = if i ∈ vs then en[i]?.map (fun _ => none) else en[i]?
  | [], i => by simp [wipeE]
  | v :: vs, i => by
    unfold wipeE
    by_cases h : v = i
    · subst h
      rw [List.getElem?_set, if_pos rfl, if_pos List.mem_cons_self]
      split
      · rename_i hl
        rw [wipeE_length] at hl
        rw [List.getElem?_eq_getElem hl]; rfl
      · rename_i hl
        rw [wipeE_length] at hl
        rw [List.getElem?_eq_none (by omega)]; rfl
    · rw [List.getElem?_set_ne h, wipeE_get en vs i]
      by_cases hi : i ∈ vs
      · rw [if_pos hi, if_pos (List.mem_cons_of_mem _ hi)]
      · rw [if_neg hi, if_neg (fun q => (List.mem_cons.mp q).elim (fun e => h e.symm) hi)]
theorem wipe_wipe (σ : L2.St) (vs : List Nat) : wipe (wipe σ vs) vs = wipe σ vs := by
  apply List.ext_getElem?
  intro i
  rw [wipe_get (wipe σ vs), wipe_get σ]
  split
  · cases σ[i]? <;> rfl
  · rfl
theorem wipe_set {σ : L2.St} {vs : List Nat} {i : Nat} {v : Option V} (h : i ∈ vs) : wipe (σ.set i v) vs = wipe σ vs := by
  apply List.ext_getElem?
  intro j
  rw [wipe_get, wipe_get]
  split
  · rw [List.getElem?_set]
    split
    · rename_i e
      subst e
      split
      · rename_i hl
        rw [List.getElem?_eq_getElem hl]; rfl
      · rename_i hl
        rw [List.getElem?_eq_none (by omega)]
    · rfl
  · rename_i hj
    rw [List.getElem?_set_ne (fun e => hj (by rw [← e]; exact h))]
theorem wipeE_some {vs : List Nat} {i : Nat} {d : D} (h : (wipeE en vs)[i]? = some (some d)) : i ∉ vs ∧ en[i]? = some (some d) := by
  rw [wipeE_get] at h
  split at h
  · cases q : en[i]? <;> (rw [q] at h; cases h)
  · rename_i hi
    exact ⟨hi, h⟩
theorem REnv.wipe (r : REnv K mg own W en σ) (vs : List Nat) : REnv K mg own W (wipeE en vs) (L2.wipe σ vs) where
  len := by rw [wipeE_length, wipe_length, r.len]
  val := fun i d h n => by
    obtain ⟨h1, h2⟩ := wipeE_some h
    rw [wipe_get, if_neg h1]
    exact r.val i d h2 n
  mine := fun i d h n => by
    obtain ⟨h1, h2⟩ := wipeE_some h
    rw [wipe_get, if_neg h1]
    exact r.mine i d h2 n
  apart := fun i j d e a b hi hj hne h1 h2 h3 h4 => by
    obtain ⟨k1, k2⟩ := wipeE_some h1
    obtain ⟨l1, l2⟩ := wipeE_some h2
    rw [wipe_get, if_neg k1] at h3
    rw [wipe_get, if_neg l1] at h4
    exact r.apart i j d e a b hi hj hne k2 l2 h3 h4
end

/-! ### targets -/
def tG (K : PySem.W.Frag) (mg : MG) (own : List Nat) (t : Tg) : TG := fun v σ H Q => ∃ W S en d en', W.H = H ∧ Rep K mg W S ∧ REnv K mg own W en σ ∧ RepD K mg W d v ∧ t.put d en = some en' ∧
  ∀ σ', REnv K mg own W en' σ' → (∀ vs, (∀ i ∈ t.slots, i ∈ vs) → wipe σ' vs = wipe σ vs) → (∀ i ∈ own, σ'[i]? = σ[i]? ∧ en'[i]? = en[i]?) → Q σ' H
def tGs (K : PySem.W.Frag) (mg : MG) (own : List Nat) (ts : List Tg) : TGs := fun vs σ H Q => ∃ W S en ds en', W.H = H ∧ Rep K mg W S ∧ REnv K mg own W en σ ∧ RepDs K mg W ds vs ∧ Tg.puts ts ds en = some en' ∧
  ∀ σ', REnv K mg own W en' σ' → (∀ vs, (∀ i ∈ Tg.slotss ts, i ∈ vs) → wipe σ' vs = wipe σ vs) → (∀ i ∈ own, σ'[i]? = σ[i]? ∧ en'[i]? = en[i]?) → Q σ' H
section
variable {CXx : CXT} {G : Glob} {P : Prog} {k : Nat} {N : List Str} {E : XK} {b : Bl} {X : Cx} {own : List Nat} {ob : Bool}
theorem cG_star {n : Nat} {e : Expr} {t : Tg} (h : cG N own b n e = some t) : noStar e = true := by
  cases n with
  | zero => cases h
  | succ n => cases e <;> first | rfl | cases h
theorem asg_cons {e : Expr} {es : List Expr} {env : PySem.Env} (h : noStar e = true) : assignEach (e :: es) env = (false, assign e env) :: assignEach es env := by
  cases e <;> first | rfl | cases h
theorem asg_len {env : PySem.Env} : ∀ {es : List Expr}, (assignEach es env).length = es.length
  | [] => rfl
  | e :: es => by
    cases e <;> (unfold assignEach; rw [List.length_cons, List.length_cons, asg_len])
theorem asg_star {env : PySem.Env} : ∀ {es : List Expr}, (∀ e ∈ es, noStar e = true) → (assignEach es env).findIdx? (·.1) = none
  | [], _ => rfl
  | e :: es, h => by
    rw [asg_cons (h e List.mem_cons_self), List.findIdx?_cons]
    simp only [Bool.false_eq_true, if_false]
    rw [asg_star fun x hx => h x (List.mem_cons_of_mem _ hx)]
    rfl
theorem puts_len : ∀ {ts : List Tg} {ds : List D} {en en' : Env}, Tg.puts ts ds en = some en' → ts.length = ds.length
  | [], [], _, _, _ => rfl
  | [], _ :: _, _, _, h => by simp [Tg.puts] at h
  | _ :: _, [], _, _, h => by simp [Tg.puts] at h
  | t :: ts, d :: ds, en, en', h => by
    rw [Tg.puts] at h
    obtain ⟨e1, _, h⟩ := bind_some h
    rw [List.length_cons, List.length_cons, puts_len h]
theorem snd_tgs (g : Good CXx G P k N E b X) {c : Expr → Option Tg} (st : ∀ e t, c e = some t → noStar e = true) (ih : ∀ e t, c e = some t → PG X e (tG X.K X.mgw own t)) : ∀ (es : List Expr) (ts : List Tg), es.mapM c = some ts →
    PGs X es (tGs X.K X.mgw own ts) ∧ (∀ e ∈ es, noStar e = true) ∧ ts.length = es.length
  | [], ts, h => by
    rw [List.mapM_nil] at h
    cases h
    refine ⟨⟨fun pins s σ H vs us Q I r q => pgs_nil.run pins s σ H vs us Q I r ?_⟩, (fun e h => by cases h), rfl⟩
    obtain ⟨W, S, en, ds, en', rfl, R, rr, hd, hp, q⟩ := q
    cases ds with
    | nil =>
      cases hd
      cases hp
      exact ⟨rfl, q σ rr (fun _ _ => rfl) fun _ _ => ⟨rfl, rfl⟩⟩
    | cons d ds => simp [Tg.puts] at hp
  | e :: es, ts, h => by
    rw [List.mapM_cons] at h
    obtain ⟨t, h1, h⟩ := bind_some h
    obtain ⟨r, h2, h⟩ := bind_some h
    cases h
    have s := ih e t h1
    have ns := st e t h1
    obtain ⟨s2, n2, l2⟩ := snd_tgs g st ih es r h2
    refine ⟨⟨fun pins s' σ H vs us Q I r' q => (pgs_cons s s2 (by rw [asg_cons ns]; rfl)).run pins s' σ H vs us Q I r' ?_⟩, (fun x hx => (List.mem_cons.mp hx).elim (fun z => by rw [z]; exact ns) (n2 x)), by rw [List.length_cons, List.length_cons, l2]⟩
    obtain ⟨W, S, en, ds, en', rfl, R, rr, hd, hp, q⟩ := q
    cases hd with
    | nil => simp [Tg.puts] at hp
    | cons h0 hr =>
      rw [Tg.puts] at hp
      obtain ⟨en1, p1, p2⟩ := bind_some hp
      refine ⟨_, _, rfl, W, S, en, _, en1, rfl, R, rr, h0, p1, fun σ1 rr1 w1 o1 => ?_⟩
      refine ⟨W, S, en1, _, en', rfl, R, rr1, hr, p2, fun σ2 rr2 w2 o2 => q σ2 rr2 (fun vs hvs => ?_) fun i hi => ⟨(o2 i hi).1.trans (o1 i hi).1, (o2 i hi).2.trans (o1 i hi).2⟩⟩
      have hv : ∀ i, i ∈ Tg.slots t ∨ i ∈ Tg.slotss r → i ∈ vs := fun i hi => hvs i (by show i ∈ Tg.slots t ++ Tg.slotss r; exact List.mem_append.mpr hi)
      rw [w2 vs fun i hi => hv i (.inr hi), w1 vs fun i hi => hv i (.inl hi)]
theorem snd_tg (g : Good CXx G P k N E b X) : ∀ (n : Nat) (e : Expr) (t : Tg), cG N own b n e = some t → PG X e (tG X.K X.mgw own t)
  | 0, _, _, h => by cases h
  | n + 1, e, t, h => by
    cases e <;> first | (cases h; done) | skip
    · rename_i x pos
      have h : (if loc b x = true then (slot N x).bind fun i => if i ∈ own then none else some (Tg.nm i) else none) = some t := h
      split at h
      · rename_i hx
        obtain ⟨i, h1, h⟩ := bind_some h
        split at h
        · cases h
        · rename_i ho
          cases h
          obtain ⟨l1, l2⟩ := g.loc hx
          refine ⟨fun pins s' σ H v u Q I r q => (pg_name (by rw [g.hN]; exact g.nd) (by rw [g.hN]; exact slot_get h1) l1 l2).run pins s' σ H v u Q I r ?_⟩
          obtain ⟨W, S, en, d, en', rfl, R, rr, hd, hp, q⟩ := q
          rw [Tg.put] at hp
          cases hp
          refine q _ (rr.put ho hd) (fun vs hvs => wipe_set (hvs i (by simp [Tg.slots]))) fun j hj => ?_
          have hij : i ≠ j := fun e => ho (e ▸ hj)
          exact ⟨List.getElem?_set_ne hij, List.getElem?_set_ne hij⟩
      · cases h
    · rename_i es kk pos
      have h : (es.mapM (cG N own b n)).map Tg.tup = some t := h
      obtain ⟨ts, h1, rfl⟩ := map_some h
      obtain ⟨s, ns, hl⟩ := snd_tgs g (fun e t => cG_star) (snd_tg g n) es ts h1
      refine ⟨fun pins s' σ H v u Q I r q => (pg_tup (n := es.length) g.calm s asg_len (asg_star ns)).run pins s' σ H v u Q I r ?_⟩
      obtain ⟨W, S, en, d, en', rfl, R, rr, hd, hp, q⟩ := q
      cases hd with
      | tup l r0 =>
        rw [Tg.put] at hp
        refine ⟨_, _, rfl, l.sq, ?_, W, S, en, _, en', rfl, R, rr, r0, hp, q⟩
        rw [← r0.length, ← puts_len hp, hl]
      | _ => simp [Tg.put] at hp
end
end Ly
/-! Ly: list comprehensions. -/
namespace Ly
open PySem PySem.Spec PyProof.Rows L2 PySem.SeqAt
section
variable {K : PySem.W.Frag} {mg : MG} {W W' : Wd} {S : Sto}
/-- the new list is done: it changes no more -/
theorem Ext.done {D : Addr} {o : HO} (hd : ∀ a, W.F a → W.H a ≠ none) (hn : W.H D = none) (hρ : D ∉ W.ρ) (x : ExtZ (fun a => a = D) (W.more D o) W') : Ext W (W'.less D) where
  keep := fun a u h n => by
    have hne : a ≠ D := fun e => by rw [e, hn] at h; cases h
    refine x.keep a u ?_ n hne
    show upd W.H D o a = some u
    rw [upd_ne hne]; exact h
  pre := x.pre
  fsub := fun a h => ⟨x.fsub a (.inl h), fun e => hd a h (by rw [e]; exact hn)⟩
  fnew := fun a h => by
    rcases x.fnew a h.1 with (z | z) | z
    · exact .inl z
    · exact absurd z h.2
    · refine .inr ?_
      rw [show (W.more D o).H = upd W.H D o from rfl, upd_ne h.2] at z
      exact z
  dom := fun a h => x.dom a (by
    show upd W.H D o a ≠ none
    by_cases e : a = D
    · subst e; rw [upd_same]; simp
    · rw [upd_ne e]; exact h)
  rnew := fun a h => by
    rcases x.rnew a h with z | z
    · exact .inl z
    · by_cases e : a = D
      · subst e
        rw [show (W.more a o).H = upd W.H a o from rfl, upd_same] at z
        cases z
      · rw [show (W.more D o).H = upd W.H D o from rfl, upd_ne e] at z
        exact .inr z
theorem not_in {D : Addr} {o : HO} (hρ : D ∉ W.ρ) (x : ExtZ (fun a => a = D) (W.more D o) W') : D ∉ W'.ρ := fun h => by
  rcases x.rnew D h with z | z
  · exact hρ z
  · rw [show (W.more D o).H = upd W.H D o from rfl, upd_same] at z
    cases z
end
section
variable {CXx : CXT} {G : Glob} {P : Prog} {k : Nat} {N : List Str} {E : XK} {b : Bl} {X : Cx} {own : List Nat} {ob : Bool}
/-- a clause's test -/
theorem snd_if {c : Option Expr} {ic : Option Ex} (h : (c = none ∧ ic = none) ∨ ∃ x a, c = some x ∧ ic = some a ∧ Snd own P k E X false x a) : PTs X c.toList (tCd X.K X.mgw E own (callP P k) ic) := by
  rcases h with ⟨rfl, rfl⟩ | ⟨x, a, rfl, rfl, h⟩
  · refine ⟨fun pins s σ H Q I q => pts_nil.run pins s σ H Q I ?_⟩
    obtain ⟨W, S, en, rfl, R, rr, q⟩ := q
    rw [evC] at q
    exact q W (Ext.refl W) R
  · refine ⟨fun pins s σ H Q I q => (pts_one h.2).run pins s σ H Q I ?_⟩
    obtain ⟨W, S, en, rfl, R, rr, q⟩ := q
    rw [evC] at q
    refine ⟨W, S, en, rfl, R, rr, q.bind.mono fun x S1 W1 x1 R1 q1 => ?_⟩
    split at q1
    · exact ⟨_, rfl, q1 W1 (Ext.refl W1) R1⟩
    · exact q1.elim
theorem out_ok {α : Type} {K : PySem.W.Frag} {mg : MG} {W : Wd} {r : Re α} {a : α} {S : Sto} {R : α → Sto → Wd → Prop} (e : r = .ok a S) (h : ∀ W', Ext W W' → Rep K mg W' S → R a S W') : Out K mg E W r R := by
  subst e
  exact h
theorem tLc_of {E' : XK} {vs : List Nat} {tg : Tg} {kk : Ik} {es : List Ex} {c : Option Ex} {e : Ex} (hv : ∀ i ∈ tg.slots, i ∈ vs) {σ : L2.St} {H : Hp} {Q : VK} (h : tE X.K X.mgw E own (callP P k) ob (.comp vs tg kk es c e) σ H Q) :
    tLc (tI X.K X.mgw E own (callP P k) true kk es) (tG X.K X.mgw own tg) (tCd X.K X.mgw E' own (callP P k) c) (tE X.K X.mgw E' own (callP P k) false e) vs σ H Q := by
  obtain ⟨W, S, en, rfl, R, rr, q⟩ := h
  rw [evE] at q
  refine ⟨W, S, en, rfl, R, rr, q.bind.mono fun ds S1 W1 x1 R1 q1 => ?_⟩
  have rr1 := rr.ext x1 R.sub
  split at q1
  · exact q1.elim
  rename_i xs hw
  split at q1
  case isFalse => exact q1.elim
  rename_i hz
  refine ⟨xs, hw, fun J hJ D hD => ?_⟩
  generalize hf : (fun (x : Ly.D) (S : Sto) => match tg.put x (wipeE en vs) with
      | none => (Re.bad : Re (Option Ly.D))
      | some en' => (evC (callP P k) c en' S).bind fun b S => if b then (evE (callP P k) e en' S).bind fun y S => .ok (some y) S else .ok none S) = f at q1
  have hD0 : D ∉ W1.ρ := fun h => R1.dom D (R1.sub D h) hD
  have wk := hJ (fun a => a = D) (by unfold ZFor; rw [if_pos rfl]; intro a e; rw [e]; exact hD)
  have zok : ZOk (fun a => a = D) W1 := fun a e => .inr (by rw [e]; exact hD)
  have x0 : Ext W1 (W1.more D (.lst [])) := Ext.more hD
  have zok0 : ZOk (fun a => a = D) (W1.more D (.lst [])) := fun a e => .inl (.inr e)
  have hown : ∀ i d a, i ∈ own → en[i]? = some (some d) → σ[i]? = some (some (.ref a)) → a ≠ D := fun i d a hi h1 h2 ea => by
    obtain ⟨a', k1, k2, _⟩ := rr1.mine i d h1 hi
    rw [h2] at k1; cases k1
    obtain ⟨o, k2⟩ := k2.some
    rw [ea, hD] at k2; cases k2
  -- what stands at turn i
  let Inv' : Nat → Hp → Prop := fun i H => i ≤ xs.length ∧ ∃ (W' : Wd) (S' : Sto) (acc : List Ly.D) (us : List V), W'.H = H ∧ ExtZ (fun a => a = D) (W1.more D (.lst [])) W' ∧ Rep X.K X.mgw W' S' ∧ still S' (watch S1 ds) = true ∧
    W'.H D = some (.lst us) ∧ RepDs X.K X.mgw W' acc us ∧ acc.length ≤ i ∧ Out X.K X.mgw E W1 (compLoop f (watch S1 ds) (xs.drop i) acc S') fun d _ W' => ∀ v, RepM ob X.K X.mgw W' d v → Q v W'.H
  refine ⟨fun i m H => m = xs.length - i ∧ Inv' i H, ⟨xs.length, by simp, Nat.zero_le _, W1.more D (.lst []), S1, [], [], rfl, ?_, R1.more hD, still_watch ds, ?_, .nil, Nat.le_refl _, q1⟩, ?_⟩
  · exact (Ext.refl _).z
  · show upd W1.H D (.lst []) D = _
    rw [upd_same]
  rintro i m H ⟨rfl, hi, W', S', acc, us, rfl, xx, R', st, hu, ru, hl, q⟩
  have xall : ExtZ (fun a => a = D) W1 W' := x0.z.trans xx
  have hDρ : D ∉ W'.ρ := not_in hD0 xx
  have hDF : W'.F D := xx.fsub D (.inr rfl)
  by_cases hlt : i < xs.length
  · refine .inr ⟨wk.go i W' S' hlt xall R' st, fun H => Inv' (i + 1) H, fun H' h => ⟨_, by omega, rfl, h⟩, fun x H' y => ?_⟩
    obtain ⟨W2, d, rfl, x2, R2, hd, rd⟩ := wk.yld i W' S' x H' hlt xall R' st y
    have ed : xs.drop i = d :: xs.drop (i + 1) := by
      obtain ⟨hlt', e⟩ := List.getElem?_eq_some_iff.mp hd
      rw [List.drop_eq_getElem_cons hlt', e]
    rw [ed, compLoop] at q
    have hu2 : W2.H D = some (.lst us) := x2.keep _ _ hu hDρ
    have hDρ2 : D ∉ W2.ρ := fun h => by
      rcases x2.rnew _ h with z | z
      · exact hDρ z
      · rw [hu] at z; cases z
    split at q
    case h_2 => exact q.elim
    rename_i r S2 hr
    split at q
    case isFalse => exact q.elim
    rename_i st2
    rw [← hf] at hr
    have hr : (match tg.put d (wipeE en vs) with
      | none => (Re.bad : Re (Option Ly.D))
      | some en' => (evC (callP P k) c en' S').bind fun b S => if b then (evE (callP P k) e en' S).bind fun y S => .ok (some y) S else .ok none S) = .ok r S2 := hr
    split at hr
    · cases hr
    rename_i en' hp
    have rr2 : REnv X.K X.mgw own W2 (wipeE en vs) (wipe σ vs) := ((rr1.extZ xall zok R1.sub hown).wipe vs).ext x2 R'.sub
    refine ⟨W2, S', wipeE en vs, d, en', rfl, R2, rr2, rd, hp, fun σ2 rr3 w2 _ => ⟨by rw [w2 vs hv, wipe_wipe], ?_⟩⟩
    obtain ⟨bb, S3, hc, hr⟩ := bind_ok hr
    refine ⟨W2, S', en', rfl, R2, rr3, out_ok hc fun W3 x3 R3 => ?_⟩
    have hu3 : W3.H D = some (.lst us) := x3.keep _ _ hu2 hDρ2
    have hDρ3 : D ∉ W3.ρ := fun h => by
      rcases x3.rnew _ h with z | z
      · exact hDρ2 z
      · rw [hu2] at z; cases z
    have xx3 := (xx.trans x2.z).trans x3.z
    have ru3 := (ru.ext x2 R'.sub).ext x3 R2.sub
    cases bb with
    | true =>
      refine iteT ?_
      have hr : ((evE (callP P k) e en' S3).bind fun y S => .ok (some y) S) = .ok r S2 := hr
      obtain ⟨y, S4, he, hr⟩ := bind_ok hr
      cases hr
      refine ⟨W3, S3, en', rfl, R3, rr3.ext x3 R2.sub, out_ok he fun W4 x4 R4 v hv => ?_⟩
      have hv : RepD X.K X.mgw W4 y v := hv
      have hu4 : W4.H D = some (.lst us) := x4.keep _ _ hu3 hDρ3
      have hDρ4 : D ∉ W4.ρ := fun h => by
        rcases x4.rnew _ h with z | z
        · exact hDρ3 z
        · rw [hu3] at z; cases z
      have xx4 := xx3.trans x4.z
      have hF4 : W4.F D := x4.fsub _ (x3.fsub _ (x2.fsub _ hDF))
      have xat : ExtZ (fun a => a = D) W4 (W4.at D (.lst (us ++ [v]))) := ExtZ.at rfl (by rw [hu4]; simp)
      have zo4 : ZOk (fun a => a = D) W4 := fun a e => .inl (by rw [e]; exact hF4)
      refine ⟨us, hu4, ?_, by omega, W4.at D (.lst (us ++ [v])), S2, acc ++ [y], us ++ [v], rfl, xx4.trans xat, R4.at hF4 hDρ4, st2, ?_, ?_, ?_, q⟩
      · rw [← line_eq, ← ru.length]; omega
      · show upd W4.H D _ D = _
        rw [upd_same]
      · exact ((ru3.ext x4 R3.sub).append (.cons hv .nil)).extZ xat zo4 R4.sub
      · rw [List.length_append]
        show acc.length + 1 ≤ i + 1
        omega
    | false =>
      refine iteF ?_
      cases (show (Re.ok none S3 : Re (Option Ly.D)) = .ok r S2 from hr)
      exact ⟨by omega, W3, S2, acc, us, rfl, xx3, R3, st2, hu3, ru3, by omega, q⟩
  · have ei : i = xs.length := by omega
    subst ei
    refine .inl ⟨wk.stop W' S' xall R' st, ?_⟩
    rw [List.drop_length, compLoop] at q
    have xd : Ext W1 (W'.less D) := Ext.done R1.dom hD hD0 xx
    refine q (W'.less D) xd (R'.less hDρ) (.ref D) (RepM.of (.lst (.inl ⟨.inl hu, fun z => z.2 rfl⟩) ru.less))
end
end Ly
/-! Ly: the evaluator's terms tell what the text's trees do: all expressions. -/
namespace Ly
open PySem PySem.Spec PyProof.Rows L2 PySem.SeqAt
section
variable {CXx : CXT} {G : Glob} {P : Prog} {k : Nat} {N : List Str} {own : List Nat}
theorem Good.blk {E : XK} {b : Bl} {X : Cx} (g : Good CXx G P k N E b X) (scope : Scope) (s : Shared) (H : Hp) (C : Addr) (cl : List (Str × Addr)) (fp : List Addr) :
    Good CXx G P k N E0 ⟨relS scope b.sc, fun x => scope.names.lookup x == some .cell⟩ (X.blk s H scope (compEnvC scope cl C X.env) fp) where
  calm := g.calm
  hN := g.hN
  nd := g.nd
  sc := by
    show relS scope X.env.scope = _
    rw [g.sc]
  fo := fun x h => h
  room := g.room
  pass := fun pins σ H s e s' _ c => (g.e0 _ _ _ _ _ c).elim
  e0 := g.e0
  consts := g.consts
  free := g.free
  fns := g.fns
theorem plainIx_of {i : Expr} (h : ∀ lo hi st pos, i ≠ .Slice lo hi st pos) : PlainIx i := by
  cases i <;> first | exact fun _ _ => rfl | exact absurd rfl (h _ _ _ _)
theorem Snd.b {E : XK} {ob : Bool} {X : Cx} {e : Expr} {ir : Ex} (h : Snd own P k E X false e ir) : Snd own P k E X ob e ir := by
  refine ⟨pe_imp h.1 fun σ H Q q => ?_, h.2⟩
  cases ob with
  | true => exact tE_b q
  | false => exact q
theorem sound_E : ∀ (n : Nat) (E : XK) (ob : Bool) (b : Bl) (X : Cx) (e : Expr) (ir : Ex), Good CXx G P k N E b X → cE G N own n ob b e = some ir → Snd own P k E X ob e ir
  | 0, _, _, _, _, _, _, _, h => by cases h
  | n + 1, E, ob, b, X, e, ir, g, h => by
    have ih : ∀ ob e ir, cE G N own n ob b e = some ir → Snd own P k E X ob e ir := fun ob e ir h => sound_E n E ob b X e ir g h
    have st : ∀ ob e ir, cE G N own n ob b e = some ir → noStar e = true := fun ob e ir h => cE_star h
    unfold cE at h
    split at h
    · cases h; exact snd_const _ _ _ pe_int fun W => .int _
    · cases h; exact snd_const _ _ _ pe_bl fun W => .bl _
    · cases h; exact snd_const _ _ _ pe_str fun W => .str _
    · cases h; exact snd_const _ _ _ pe_non fun W => .non
    · split at h
      · rename_i hp
        split at h
        · rename_i hv
          obtain ⟨i, h1, h⟩ := bind_some h
          split at h
          · rename_i hi
            split at h
            · rename_i hob
              cases h
              exact snd_slot g hp hv h1 fun _ => hob
            · cases h
          · rename_i hi
            cases h
            exact snd_slot g hp hv h1 fun q => absurd q hi
        · split at h
          · rename_i hg
            split at h
            · rename_i d hc
              cases h
              exact snd_glob g hp hg hc
            · split at h
              · rename_i hf
                cases h
                exact snd_fn g hp hg hf
              · cases h
          · cases h
      · cases h
    · obtain ⟨o, h1, h⟩ := bind_some h
      obtain ⟨a, h2, h⟩ := bind_some h
      obtain ⟨c, h3, h⟩ := map_some h
      subst h
      rw [bopOf_eq h1]
      exact snd_bin g (ih _ _ _ h2) (ih _ _ _ h3)
    · obtain ⟨a, h1, h⟩ := map_some h
      subst h
      exact snd_neg g (ih _ _ _ h1)
    · obtain ⟨a, h1, h⟩ := map_some h
      subst h
      exact snd_not g (ih _ _ _ h1)
    · split at h
      · cases h
      · rename_i hm
        obtain ⟨o, h1, h⟩ := bind_some h
        obtain ⟨a, h2, h⟩ := bind_some h
        obtain ⟨c, h3, h⟩ := map_some h
        subst h
        rw [copOf_eq h1] at hm ⊢
        exact snd_cmp g (by simpa using hm) (ih _ _ _ h2) (ih _ _ _ h3)
    · split at h
      · cases h
      · rename_i hm
        obtain ⟨o, h1, h⟩ := bind_some h
        obtain ⟨o', h1', h⟩ := bind_some h
        obtain ⟨a, h2, h⟩ := bind_some h
        obtain ⟨c, h3, h⟩ := bind_some h
        obtain ⟨d, h4, h⟩ := map_some h
        subst h
        rw [copOf_eq h1'] at hm ⊢
        rw [copOf_eq h1]
        exact snd_chain g (by simpa using hm) (ih _ _ _ h2) (ih _ _ _ h3) (ih _ _ _ h4)
    · rename_i pos
      have s := snd_bool (ob := ob) g (fun ob e ir h => (ih _ _ _ h).b) _ _ pos h
      exact ⟨s.1, s.2.pt⟩
    · obtain ⟨c, h1, h⟩ := bind_some h
      obtain ⟨x, h2, h⟩ := bind_some h
      obtain ⟨y, h3, h⟩ := map_some h
      subst h
      exact snd_ite g (ih _ _ _ h1) (ih _ _ _ h2) (ih _ _ _ h3)
    · obtain ⟨l, h1, h⟩ := map_some h
      subst h
      exact snd_tup g (snd_args g (st _) (ih _) _ _ h1).1
    · obtain ⟨l, h1, h⟩ := map_some h
      subst h
      exact snd_lst g (snd_args g (st _) (ih _) _ _ h1).1
    · split at h
      · rename_i hc
        obtain ⟨hg, hp⟩ := Bool.and_eq_true_iff.mp hc
        split at h
        · rename_i hf
          obtain ⟨l, h1, h⟩ := map_some h
          subst h
          have s := snd_args g (st _) (ih _) _ _ h1
          exact snd_call g hg hp hf s.1 s.2 (cArgs_nil h1)
        · split at h
          · rename_i hf
            split at h
            · rename_i hx
              subst hx
              split at h
              · split at h
                · rename_i hc2
                  simp only [Bool.and_eq_true, decide_eq_true_eq] at hc2
                  obtain ⟨i, h1, h⟩ := bind_some h
                  obtain ⟨a, h2, h⟩ := map_some h
                  subst h
                  exact snd_isi g hg hf hc2.1.1 hc2.1.2 hc2.2 h1 (ih _ _ _ h2) (st _ _ _ h2)
                · cases h
              · cases h
            · split at h
              · cases h
              · obtain ⟨i, h1, h⟩ := bind_some h
                obtain ⟨l, h2, h⟩ := map_some h
                subst h
                have s := snd_args g (st _) (ih _) _ _ h2
                exact snd_bi g hg hp hf h1 s.1 s.2
          · cases h
      · cases h
    · split at h
      · rename_i hc
        obtain ⟨hl, hb⟩ := Bool.and_eq_true_iff.mp hc
        obtain ⟨m, h1, h⟩ := bind_some h
        obtain ⟨o, h2, h⟩ := bind_some h
        obtain ⟨a, h3, h⟩ := map_some h
        subst h
        exact snd_me g h1 hb hl (st _ _ _ h3) (ih _ _ _ h2) (ih _ _ _ h3)
      · cases h
    · obtain ⟨a, h1, h⟩ := bind_some h
      obtain ⟨lo, h2, h⟩ := bind_some h
      obtain ⟨hi, h3, h⟩ := map_some h
      subst h
      refine snd_slc g (ih _ _ _ h1) ?_ ?_
      · split at h2
        · cases h2; exact .inl ⟨rfl, rfl⟩
        · obtain ⟨a, e, rfl⟩ := map_some h2
          exact .inr ⟨_, _, rfl, rfl, ih _ _ _ e⟩
      · split at h3
        · cases h3; exact .inl ⟨rfl, rfl⟩
        · obtain ⟨a, e, rfl⟩ := map_some h3
          exact .inr ⟨_, _, rfl, rfl, ih _ _ _ e⟩
    · obtain ⟨a, h1, h⟩ := bind_some h
      obtain ⟨i, h2, h⟩ := map_some h
      subst h
      refine snd_idx g (plainIx_of fun lo hi st pos e => ?_) (ih _ _ _ h1) (ih _ _ _ h2)
      rw [e] at h2
      cases n <;> cases h2
    · rename_i elt tg iter ifs scope pos
      have h : (if blkC N b.sc _ _ then _ else none) = some ir := h
      split at h
      · rename_i hk
        obtain ⟨t, h1, h⟩ := bind_some h
        split at h
        · rename_i hsl
          obtain ⟨it, h2, h⟩ := bind_some h
          obtain ⟨c, h3, h⟩ := bind_some h
          obtain ⟨e, h4, h⟩ := map_some h
          subst h
          obtain ⟨kk, es⟩ := it
          have hi := snd_iter (E := E) (own := own) (P := P) (k := k) g (st := fun ob e ir h => cE_star h) (ih := ih) h2
          have gb := fun s H C cl fp => g.blk scope s H C cl fp
          have hsl : ∀ i ∈ t.slots, i ∈ (ownOf N scope).map (·.2) := fun i hi => by
            have := List.all_eq_true.mp hsl i hi
            exact of_decide_eq_true this
          have hif : ∀ (s : Shared) (H : Hp) (C : Addr) (cl : List (Str × Addr)) (fp : List Addr), PTs (X.blk s H scope (compEnvC scope cl C X.env) fp) ifs (tCd X.K X.mgw E0 own (callP P k) c) := fun s H C cl fp => by
            split at h3
            · cases h3
              exact snd_if (c := none) (.inl ⟨rfl, rfl⟩)
            · obtain ⟨a, e, rfl⟩ := map_some h3
              exact snd_if (c := some _) (.inr ⟨_, _, rfl, rfl, sound_E n E0 false _ _ _ _ (gb s H C cl fp) e⟩)
            · cases h3
          refine .mk' (pe_imp (pe_lc (own := ownOf N scope) g.calm (by rw [g.hN]; exact g.nd) hi.1 (by rw [g.hN, g.sc]; exact blkOk_by hk) (fun s H C cl fp => snd_tg (gb s H C cl fp) 20 _ _ h1) hif
            (fun s H C cl fp => (sound_E n E0 false _ _ _ _ (gb s H C cl fp) h4).1) hi.2) fun σ H Q q => tLc_of hsl q) fun _ => rfl
        · cases h
      · cases h
    · cases h
end
end Ly
/-! Ly: the order of the stores. -/
namespace Ly
open PySem PySem.Spec PyProof.Rows L2 PySem.SeqAt
section
variable {env : PySem.Env}
theorem swap_name {x : Str} {p : Pos} {e : Expr} : swappedStores [.Name x p] e env = pure none := by
  unfold swappedStores
  cases e <;> rfl
theorem swap_other {ts : List Expr} {k : Nat} {tp : Pos} {e : Expr} (h : ∀ vs k p, e ≠ .Tuple vs k p) : swappedStores [.Tuple ts k tp] e env = pure none := by
  unfold swappedStores
  cases e <;> first | rfl | exact absurd rfl (h _ _ _)
theorem swap_folded {ts vs : List Expr} {k k2 : Nat} {tp vp : Pos} (h : vs.all (foldedForSure 8) = true) : swappedStores [.Tuple ts k tp] (.Tuple vs k2 vp) env = pure none := by
  simp only [swappedStores]
  split
  · rfl
  · split
    · rfl
    · split
      · rfl
      · simp [h]
theorem swap_cell {ts vs : List Expr} {k k2 : Nat} {tp vp : Pos} {b : Bl} (hs : env.scope = b.sc) (h : swapsN b ts = true) : swappedStores [.Tuple ts k tp] (.Tuple vs k2 vp) env = pure none := by
  simp only [swappedStores]
  split
  · rfl
  · split
    · rfl
    · rw [if_pos]
      refine (Bool.or_eq_true _ _).mpr (.inl ?_)
      unfold swapsN at h
      rw [← hs] at h
      refine Eq.trans (congrArg (fun f => (List.filterMap f ts).length != ts.length) (funext fun x => ?_)) h
      cases x <;> rfl
theorem swap_length {ts vs : List Expr} {k k2 : Nat} {tp vp : Pos} (h : (vs.length = 2 || vs.length = 3) = false) : swappedStores [.Tuple ts k tp] (.Tuple vs k2 vp) env = pure none := by
  simp only [swappedStores]
  split
  · rfl
  · rename_i hc
    exfalso
    simp at hc h
    omega
theorem swap_two {x y : Str} {px py tp vp : Pos} {k k2 : Nat} {a b : Expr} (hk : env.blockKind = .function) (h1 : env.kindOf x = some .local) (h2 : env.kindOf y = some .local) (hl : (py.line == px.line) = true) (hne : x ≠ y)
    (ns : ∀ e ∈ [a, b], noStar e = true) (hf : [a, b].all (foldedForSure 8) = false) (hc : [a, b].all (constantsAlone 8) = false) : swappedStores [.Tuple [.Name x px, .Name y py] k tp] (.Tuple [a, b] k2 vp) env = pure (some [x, y]) := by
  have hd : ([x, y] : List Str).eraseDups = [x, y] := by
    have e : (y == x) = false := by simpa using fun e => hne e.symm
    simp [List.eraseDups_cons, e]
  have hp : (Expr.Name x px).pos = px := rfl
  have hl : py.line = px.line := by simpa using hl
  simp only [swappedStores]
  rw [if_neg (by simp [hk]), if_neg (fun h => by
    obtain ⟨e, he, h⟩ := List.any_eq_true.mp h
    have := ns e he
    cases e <;> first | (cases h; done) | (cases this; done))]
  simp only [hf, hc, List.filterMap_cons, List.filterMap_nil, List.head?_cons, Option.map_some, Option.getD_some, h1, h2, hp, hl, beq_self_eq_true, Bool.and_self, if_true, hd, List.length_cons, List.length_nil, bne_self_eq_false, Bool.or_self, Bool.false_eq_true, if_false]
theorem swap_three {x y z : Str} {px py pz tp vp : Pos} {k k2 : Nat} {a b c : Expr} (hk : env.blockKind = .function) (h1 : env.kindOf x = some .local) (h2 : env.kindOf y = some .local) (h3 : env.kindOf z = some .local)
    (hl : (py.line == px.line) = true) (hl2 : (pz.line == px.line) = true) (hne : x ≠ y) (hne2 : x ≠ z) (hne3 : y ≠ z)
    (ns : ∀ e ∈ [a, b, c], noStar e = true) (hf : [a, b, c].all (foldedForSure 8) = false) (hc : [a, b, c].all (constantsAlone 8) = false) : swappedStores [.Tuple [.Name x px, .Name y py, .Name z pz] k tp] (.Tuple [a, b, c] k2 vp) env = pure (some [x, y, z]) := by
  have hd : ([x, y, z] : List Str).eraseDups = [x, y, z] := by
    have e : (y == x) = false := by simpa using fun e => hne e.symm
    have e2 : (z == x) = false := by simpa using fun e => hne2 e.symm
    have e3 : (z == y) = false := by simpa using fun e => hne3 e.symm
    simp [List.eraseDups_cons, e, e2, e3]
  have hp : (Expr.Name x px).pos = px := rfl
  have hl : py.line = px.line := by simpa using hl
  have hl2 : pz.line = px.line := by simpa using hl2
  simp only [swappedStores]
  rw [if_neg (by simp [hk]), if_neg (fun h => by
    obtain ⟨e, he, h⟩ := List.any_eq_true.mp h
    have := ns e he
    cases e <;> first | (cases h; done) | (cases this; done))]
  simp only [hf, hc, List.filterMap_cons, List.filterMap_nil, List.head?_cons, Option.map_some, Option.getD_some, h1, h2, h3, hp, hl, hl2, beq_self_eq_true, Bool.and_self, if_true, hd, List.length_cons, List.length_nil, bne_self_eq_false, Bool.or_self, Bool.false_eq_true, if_false]
end
end Ly
/-! Ly: statements. -/
namespace Ly
open PySem PySem.Spec PyProof.Rows L2 PySem.SeqAt

/-- the def's state; W0: the world at its entry -/
structure SEnv (K : PySem.W.Frag) (mg : MG) (own : List Nat) (W0 W : Wd) (en : Env) (σ : L2.St) : Prop where
  r : REnv K mg own W en σ
  fresh : ∀ i d a, i ∈ own → en[i]? = some (some d) → σ[i]? = some (some (.ref a)) → W0.H a = none
/-- what goes on in a def: what may not change stays -/
abbrev ExtS (W W' : Wd) : Prop := ExtZ W.F W W'
theorem ExtS.trans {W W' W'' : Wd} (x : ExtS W W') (y : ExtS W' W'') : ExtS W W'' where
  keep := fun a o h n f => y.keep a o (x.keep a o h n f) (fun q => by
    rcases x.rnew a q with q | q
    · exact n q
    · rw [h] at q; cases q) fun q => by
    rcases x.fnew a q with q | q
    · exact f q
    · rw [h] at q; cases q
  pre := x.pre.trans y.pre
  fsub := fun a h => y.fsub a (x.fsub a h)
  fnew := fun a h => by
    rcases y.fnew a h with z | z
    · exact x.fnew a z
    · refine .inr ?_
      cases q : W.H a with
      | none => rfl
      | some o => exact absurd z (x.dom a (by rw [q]; simp))
  dom := fun a h => y.dom a (x.dom a h)
  rnew := fun a h => by
    rcases y.rnew a h with z | z
    · exact x.rnew a z
    · refine .inr ?_
      cases q : W.H a with
      | none => rfl
      | some o => exact absurd z (x.dom a (by rw [q]; simp))
theorem Ext.s {W W' : Wd} (x : Ext W W') : ExtS W W' := x.z
theorem ExtS.refl (W : Wd) : ExtS W W := (Ext.refl W).z
/-- what is told of a statement's result -/
def OutS (K : PySem.W.Frag) (mg : MG) (E : XK) (own : List Nat) (W0 W : Wd) (D : Ends) (r : Re (Fl × Env)) : Prop := match r with
  | .ok (.nx, en') S => ∀ W' σ', Ext W0 W' → ExtS W W' → Rep K mg W' S → SEnv K mg own W0 W' en' σ' → D.nx σ' W'.H
  | .ok (.brk, en') S => ∀ W' σ', Ext W0 W' → ExtS W W' → Rep K mg W' S → SEnv K mg own W0 W' en' σ' → D.bk σ' W'.H
  | .ok (.cnt, en') S => ∀ W' σ', Ext W0 W' → ExtS W W' → Rep K mg W' S → SEnv K mg own W0 W' en' σ' → D.ct σ' W'.H
  | .ok (.ret d, _) S => ∀ W', Ext W0 W' → Rep K mg W' S → ∀ v, RepD K mg W' d v → D.rt v W'.H
  | .exc c fs S => ∀ W' cls od, Ext W0 W' → Rep K mg W' S → RepX K mg W' c fs cls od → E cls od W'.H
  | .bad => False
section
variable {K : PySem.W.Frag} {mg : MG} {E : XK} {own : List Nat} {W0 W W' : Wd} {D : Ends} {r : Re (Fl × Env)} {S : Sto} {en : Env} {σ : L2.St}
theorem OutS.ext (h : OutS K mg E own W0 W D r) (x : ExtS W W') : OutS K mg E own W0 W' D r := by
  unfold OutS at h ⊢
  split
  · exact fun W'' σ' y z R e => h W'' σ' y (ExtS.trans x z) R e
  · exact fun W'' σ' y z R e => h W'' σ' y (ExtS.trans x z) R e
  · exact fun W'' σ' y z R e => h W'' σ' y (ExtS.trans x z) R e
  · exact h
  · exact h
  · exact h
/-- an expression ahead -/
theorem OutS.bind {α : Type} {q : Re α} {f : α → Sto → Re (Fl × Env)} (x0 : Ext W0 W) (h : OutS K mg E own W0 W D (q.bind f)) : Out K mg E W q fun a S W' => OutS K mg E own W0 W' D (f a S) := by
  cases q with
  | ok a S => exact fun W' x R => OutS.ext (r := f a S) h x.z
  | exc c fs S => exact fun W' cls od x R q => h W' cls od (x0.trans x) R q
  | bad => exact h
theorem SEnv.ext (e : SEnv K mg own W0 W en σ) (x : Ext W W') (hs : ∀ a ∈ W.ρ, W.F a) : SEnv K mg own W0 W' en σ := ⟨e.r.ext x hs, e.fresh⟩
theorem SEnv.put {en' : Env} {σ' : L2.St} (e : SEnv K mg own W0 W en σ) (r : REnv K mg own W' en' σ') (o : ∀ i ∈ own, σ'[i]? = σ[i]? ∧ en'[i]? = en[i]?) : SEnv K mg own W0 W' en' σ' :=
  ⟨r, fun i d a hi h1 h2 => by
    obtain ⟨o1, o2⟩ := o i hi
    rw [o1] at h2
    rw [o2] at h1
    exact e.fresh i d a hi h1 h2⟩
/-- an own slot is given a new thing -/
theorem SEnv.mkOwn {i : Nat} {p : Addr} {d0 : Ly.D} (e : SEnv K mg own W0 W en σ) (hi : i ∈ own) (h : OwnC K mg W d0 p) (hF : W.F p) (hρ : p ∉ W.ρ) (pn : W0.H p = none)
    (ap : ∀ j d a, j ∈ own → j ≠ i → en[j]? = some (some d) → σ[j]? = some (some (.ref a)) → a ≠ p) : SEnv K mg own W0 W (en.set i (some d0)) (σ.set i (some (.ref p))) := by
  refine ⟨⟨by rw [List.length_set, List.length_set, e.r.len], fun j d hd hj => ?_, fun j d hd hj => ?_, fun j l d d' a b hj hl hne h1 h2 h3 h4 => ?_⟩, fun j d a hj h1 h2 => ?_⟩
  · have hij : i ≠ j := fun q => hj (q ▸ hi)
    rw [List.getElem?_set_ne hij] at hd ⊢
    exact e.r.val j d hd hj
  · by_cases hij : i = j
    · subst hij
      rw [List.getElem?_set] at hd ⊢
      rw [if_pos rfl] at hd ⊢
      split at hd
      · rename_i hl
        cases hd
        rw [if_pos (by rw [← e.r.len]; exact hl)]
        exact ⟨p, rfl, h, hF, hρ⟩
      · cases hd
    · rw [List.getElem?_set_ne hij] at hd ⊢
      exact e.r.mine j d hd hj
  · have at' : ∀ {a : Addr}, (σ.set i (some (.ref p)))[i]? = some (some (.ref a)) → a = p := fun {a} h3 => by
      rw [List.getElem?_set, if_pos rfl] at h3
      split at h3
      · cases h3; rfl
      · cases h3
    by_cases hij : i = j
    · subst hij
      rw [List.getElem?_set_ne hne] at h2 h4
      rw [at' h3]
      exact fun q => ap l d' b hl (fun z => hne z.symm) h2 h4 q.symm
    · rw [List.getElem?_set_ne hij] at h1 h3
      by_cases hil : i = l
      · subst hil
        rw [at' h4]
        exact ap j d a hj (fun z => hij z.symm) h1 h3
      · rw [List.getElem?_set_ne hil] at h2 h4
        exact e.r.apart j l d d' a b hj hl hne h1 h2 h3 h4
  · by_cases hij : i = j
    · subst hij
      rw [List.getElem?_set, if_pos rfl] at h2
      split at h2
      · cases h2; exact pn
      · cases h2
    · rw [List.getElem?_set_ne hij] at h1 h2
      exact e.fresh j d a hj h1 h2
/-- an own thing changes -/
theorem SEnv.chg {i : Nat} {p : Addr} {o : HO} {d0 d1 : Ly.D} (e : SEnv K mg own W0 W en σ) (R : Rep K mg W S) (hi : i ∈ own) (he : en[i]? = some (some d0)) (hs : σ[i]? = some (some (.ref p))) (hF : W.F p) (hρ : p ∉ W.ρ)
    (h : OwnC K mg (W.at p o) d1 p) : SEnv K mg own W0 (W.at p o) (en.set i (some d1)) σ := by
  have hne : W.H p ≠ none := R.dom p hF
  have x : ExtZ (fun a => a = p) W (W.at p o) := ExtZ.at rfl hne
  have zok : ZOk (fun a => a = p) W := fun a q => .inl (q ▸ hF)
  refine ⟨⟨by rw [List.length_set, e.r.len], fun j d hd hj => ?_, fun j d hd hj => ?_, fun j l d d' a b hj hl hjl h1 h2 h3 h4 => ?_⟩, fun j d a hj h1 h2 => ?_⟩
  · have hij : i ≠ j := fun q => hj (q ▸ hi)
    rw [List.getElem?_set_ne hij] at hd
    obtain ⟨v, k1, k2⟩ := e.r.val j d hd hj
    exact ⟨v, k1, k2.extZ x zok R.sub⟩
  · by_cases hij : i = j
    · subst hij
      rw [List.getElem?_set, if_pos rfl] at hd
      split at hd
      · cases hd
        exact ⟨p, hs, h, hF, hρ⟩
      · cases hd
    · rw [List.getElem?_set_ne hij] at hd
      obtain ⟨a, k1, k2, k3, k4⟩ := e.r.mine j d hd hj
      exact ⟨a, k1, k2.extZ x zok R.sub k4 (fun q => e.r.apart i j _ d p a hi hj hij he hd hs k1 q.symm), k3, k4⟩
  · have low : ∀ {j : Nat} {d : Ly.D}, (en.set i (some d1))[j]? = some (some d) → ∃ d, en[j]? = some (some d) := fun {j d} h1 => by
      by_cases hij : i = j
      · subst hij; exact ⟨_, he⟩
      · rw [List.getElem?_set_ne hij] at h1; exact ⟨_, h1⟩
    obtain ⟨_, k1⟩ := low h1
    obtain ⟨_, k2⟩ := low h2
    exact e.r.apart j l _ _ a b hj hl hjl k1 k2 h3 h4
  · by_cases hij : i = j
    · subst hij
      exact e.fresh i _ a hj he h2
    · rw [List.getElem?_set_ne hij] at h1
      exact e.fresh j d a hj h1 h2
/-- the world with an own thing changed goes on from the def's entry -/
theorem ext_own {p : Addr} {o : HO} (x0 : Ext W0 W) (hn : W0.H p = none) (hne : W.H p ≠ none) : Ext W0 (W.at p o) := by
  have xa : ExtZ (fun a => a = p) W (W.at p o) := ExtZ.at rfl hne
  refine ⟨fun c u hc n => ?_, x0.pre, x0.fsub, x0.fnew, fun c hc => xa.dom c (x0.dom c hc), x0.rnew⟩
  show upd W.H p _ c = _
  rw [upd_ne fun e => by rw [e, hn] at hc; cases hc]
  exact x0.keep c u hc n
end

/-! ### readings -/
structure FromS (K : PySem.W.Frag) (mg : MG) (own : List Nat) (W0 W : Wd) (S : Sto) (en : Env) (σ : L2.St) : Prop where
  R : Rep K mg W S
  x : Ext W0 W
  d0 : ∀ a, W0.F a → W0.H a ≠ none
  e : SEnv K mg own W0 W en σ
def tSt (K : PySem.W.Frag) (mg : MG) (E : XK) (own : List Nat) (cf : CF) (s : Ly.St) : TS := fun D σ H => ∃ W0 W S en, W.H = H ∧ FromS K mg own W0 W S en σ ∧ OutS K mg E own W0 W D (evS cf s en S)
def tSs (K : PySem.W.Frag) (mg : MG) (E : XK) (own : List Nat) (cf : CF) (s : List Ly.St) : TS := fun D σ H => ∃ W0 W S en, W.H = H ∧ FromS K mg own W0 W S en σ ∧ OutS K mg E own W0 W D (evSs cf s en S)
structure GoodS (CXx : CXT) (G : Glob) (P : Prog) (k : Nat) (N : List Str) (E : XK) (b : Bl) (X : Cx) : Prop where
  g : Good CXx G P k N E b X
  po : PassesOwn (model X.prog X.w) X.A X.env X.xe
  kind : X.env.blockKind = .function
section
variable {CXx : CXT} {G : Glob} {P : Prog} {k : Nat} {N : List Str} {E : XK} {b : Bl} {X : Cx} {own : List Nat}
abbrev SndS (own : List Nat) (P : Prog) (k : Nat) (E : XK) (X : Cx) (st : Stmt) (s : Ly.St) : Prop := PS X st (tSt X.K X.mgw E own (callP P k) s)
/-! a block -/
theorem snd_sts {c : Stmt → Option Ly.St} (ih : ∀ st s, c st = some s → SndS own P k E X st s) : ∀ (sts : List Stmt) (ss : List Ly.St), cS.cArgsS c sts = some ss → PSs X sts (tSs X.K X.mgw E own (callP P k) ss)
  | [], ss, h => by
    cases h
    refine pss_imp pss_nil fun D σ H q => ?_
    obtain ⟨W0, W, S, en, rfl, f, q⟩ := q
    rw [evSs] at q
    exact q W σ f.x (ExtS.refl W) f.R f.e
  | st :: sts, ss, h => by
    obtain ⟨a, h1, h⟩ := bind_some h
    obtain ⟨r, h2, h⟩ := map_some h
    subst h
    refine pss_imp (pss_cons (ih st a h1) (snd_sts ih sts r h2)) fun D σ H q => ?_
    obtain ⟨W0, W, S, en, rfl, f, q⟩ := q
    rw [evSs] at q
    refine ⟨W0, W, S, en, rfl, f, ?_⟩
    generalize evS (callP P k) a en S = w at q
    cases w with
    | ok z S1 =>
      obtain ⟨fl, en1⟩ := z
      cases fl with
      | nx => exact fun W' σ' x xs R e => ⟨W0, W', S1, en1, rfl, ⟨R, x, f.d0, e⟩, OutS.ext q xs⟩
      | ret d => exact q
      | brk => exact q
      | cnt => exact q
    | exc c fs S1 => exact q
    | bad => exact q
/-! small statements -/
theorem asg_of {t : Tg} {W0 W : Wd} {S : Sto} {en en' : Env} {σ : L2.St} {d : Ly.D} {v : V} {D : Ends} (f : FromS X.K X.mgw own W0 W S en σ) (hd : RepD X.K X.mgw W d v) (hp : t.put d en = some en') (q : OutS X.K X.mgw E own W0 W D (.ok (.nx, en') S)) : tG X.K X.mgw own t v σ W.H D.nx :=
  ⟨W, S, en, d, en', rfl, f.R, f.e.r, hd, hp, fun σ' r _ o => q W σ' f.x (ExtS.refl W) f.R (f.e.put r o)⟩
/-- target = value, by the value's reading -/
theorem tAsg_of {t : Tg} {ir : Ex} {D : Ends} {σ : L2.St} {H : Hp} (q : tSt X.K X.mgw E own (callP P k) (.asg t ir) D σ H) : tE X.K X.mgw E own (callP P k) false ir σ H fun v H1 => tG X.K X.mgw own t v σ H1 D.nx := by
  obtain ⟨W0, W, S, en, rfl, f, q⟩ := q
  rw [evS] at q
  refine ⟨W, S, en, rfl, f.R, f.e.r, (q.bind f.x).mono fun d S1 W1 x1 R1 q1 v hv => ?_⟩
  split at q1
  · rename_i en' hp
    exact asg_of ⟨R1, f.x.trans x1, f.d0, f.e.ext x1 f.R.sub⟩ hv hp q1
  · exact q1.elim
theorem snd_asg (g : GoodS CXx G P k N E b X) {tg e : Expr} {t : Tg} {ir : Ex} {pos : Pos} (ht : PG X tg (tG X.K X.mgw own t)) (ns : noStar tg = true) (he : Snd own P k E X false e ir) (hc : isComp e = false) (hw : swappedStores [tg] e X.env = pure none) : SndS own P k E X (.Assign [tg] e pos) (.asg t ir) := by
  refine ps_imp (ps_asg he.1 ht ?_ hw (by rw [asg_cons ns]; rfl)) fun D σ H q => tAsg_of q
  show swapsWith e (some tg) pos.line X.env = _
  unfold swapsWith
  cases e <;> first | rfl | cases hc
theorem snd_par2 (g : GoodS CXx G P k N E b X) {x y : Str} {px py tp vp pos : Pos} {kk k2 : Nat} {a c : Expr} {i j : Nat} {irs : List Ex} (hi : N[i]? = some x) (hj : N[j]? = some y) (hij : i ≠ j) (oi : i ∉ own) (oj : j ∉ own)
    (lx : X.env.scope.names.lookup x = some .local) (ly : X.env.scope.names.lookup y = some .local) (ha : PA X [a, c] (tEs X.K X.mgw E own (callP P k) false irs))
    (hw : swappedStores [.Tuple [.Name x px, .Name y py] kk tp] (.Tuple [a, c] k2 vp) X.env = pure (some [x, y])) :
    SndS own P k E X (.Assign [.Tuple [.Name x px, .Name y py] kk tp] (.Tuple [a, c] k2 vp) pos) (.asg (.tup [.nm i, .nm j]) (.tup irs)) := by
  refine ps_imp (ps_par g.g.calm (by rw [g.g.hN]; exact g.g.nd) (by rw [g.g.hN]; exact hi) (by rw [g.g.hN]; exact hj) hij lx ly ha hw) fun D σ H q => ?_
  obtain ⟨W0, W, S, en, rfl, f, q⟩ := q
  rw [evS, evE] at q
  refine ⟨W, S, en, rfl, f.R, f.e.r, ((q.bind f.x).bind).mono fun ds S1 W1 x1 R1 q1 vs hvs => ?_⟩
  have f1 : FromS X.K X.mgw own W0 W1 S1 en σ := ⟨R1, f.x.trans x1, f.d0, f.e.ext x1 f.R.sub⟩
  split at q1
  · have q1 := q1 W1 (Ext.refl W1) R1
    dsimp only at q1
    split at q1
    · rename_i en' hp
      rw [Tg.put] at hp
      have hvs : RepDs X.K X.mgw W1 ds vs := hvs
      have hl := puts_len hp
      match ds, hl with
      | [d, e], _ =>
        cases hvs with
        | cons h1 r =>
          cases r with
          | cons h2 r =>
            cases r
            rw [Tg.puts, Tg.put, Option.bind_some, Tg.puts, Tg.put, Option.bind_some, Tg.puts] at hp
            cases hp
            refine ⟨_, _, rfl, q1 W1 _ f1.x (ExtS.refl W1) R1 (f1.e.put ((f1.e.r.put oi h1).put oj h2) fun l hl => ?_)⟩
            have e1 : i ≠ l := fun e => oi (e ▸ hl)
            have e2 : j ≠ l := fun e => oj (e ▸ hl)
            rw [List.getElem?_set_ne e2, List.getElem?_set_ne e1, List.getElem?_set_ne e2, List.getElem?_set_ne e1]
            exact ⟨rfl, rfl⟩
    · exact q1.elim
  · exact (q1 : False).elim
theorem snd_par3 (g : GoodS CXx G P k N E b X) {x y z : Str} {px py pz tp vp pos : Pos} {kk k2 : Nat} {a c c2 : Expr} {i j l : Nat} {irs : List Ex} (hi : N[i]? = some x) (hj : N[j]? = some y) (hl0 : N[l]? = some z) (hij : i ≠ j) (hil : i ≠ l) (hjl : j ≠ l) (oi : i ∉ own) (oj : j ∉ own) (ol : l ∉ own)
    (lx : X.env.scope.names.lookup x = some .local) (ly : X.env.scope.names.lookup y = some .local) (lz : X.env.scope.names.lookup z = some .local) (ha : PA X [a, c, c2] (tEs X.K X.mgw E own (callP P k) false irs))
    (hw : swappedStores [.Tuple [.Name x px, .Name y py, .Name z pz] kk tp] (.Tuple [a, c, c2] k2 vp) X.env = pure (some [x, y, z])) :
    SndS own P k E X (.Assign [.Tuple [.Name x px, .Name y py, .Name z pz] kk tp] (.Tuple [a, c, c2] k2 vp) pos) (.asg (.tup [.nm i, .nm j, .nm l]) (.tup irs)) := by
  refine ps_imp (ps_par3 g.g.calm (by rw [g.g.hN]; exact g.g.nd) (by rw [g.g.hN]; exact hi) (by rw [g.g.hN]; exact hj) (by rw [g.g.hN]; exact hl0) hij hil hjl lx ly lz ha hw) fun D σ H q => ?_
  obtain ⟨W0, W, S, en, rfl, f, q⟩ := q
  rw [evS, evE] at q
  refine ⟨W, S, en, rfl, f.R, f.e.r, ((q.bind f.x).bind).mono fun ds S1 W1 x1 R1 q1 vs hvs => ?_⟩
  have f1 : FromS X.K X.mgw own W0 W1 S1 en σ := ⟨R1, f.x.trans x1, f.d0, f.e.ext x1 f.R.sub⟩
  split at q1
  · have q1 := q1 W1 (Ext.refl W1) R1
    dsimp only at q1
    split at q1
    · rename_i en' hp
      rw [Tg.put] at hp
      have hvs : RepDs X.K X.mgw W1 ds vs := hvs
      have hl := puts_len hp
      match ds, hl with
      | [d, e, e'], _ =>
        cases hvs with
        | cons h1 r =>
          cases r with
          | cons h2 r =>
            cases r with
            | cons h3 r =>
              cases r
              rw [Tg.puts, Tg.put, Option.bind_some, Tg.puts, Tg.put, Option.bind_some, Tg.puts, Tg.put, Option.bind_some, Tg.puts] at hp
              cases hp
              refine ⟨_, _, _, rfl, q1 W1 _ f1.x (ExtS.refl W1) R1 (f1.e.put (((f1.e.r.put oi h1).put oj h2).put ol h3) fun m hm => ?_)⟩
              have e1 : i ≠ m := fun e => oi (e ▸ hm)
              have e2 : j ≠ m := fun e => oj (e ▸ hm)
              have e3 : l ≠ m := fun e => ol (e ▸ hm)
              rw [List.getElem?_set_ne e3, List.getElem?_set_ne e2, List.getElem?_set_ne e1, List.getElem?_set_ne e3, List.getElem?_set_ne e2, List.getElem?_set_ne e1]
              exact ⟨rfl, rfl⟩
    · exact q1.elim
  · exact (q1 : False).elim
theorem snd_expr (g : GoodS CXx G P k N E b X) {e : Expr} {ir : Ex} {pos : Pos} (he : Snd own P k E X false e ir) (hc : isComp e = false) : SndS own P k E X (.Expr e pos) (.ex ir) := by
  refine ps_imp (ps_expr he.1 ?_) fun D σ H q => ?_
  · unfold swapsWith
    cases e <;> first | rfl | cases hc
  · obtain ⟨W0, W, S, en, rfl, f, q⟩ := q
    rw [evS] at q
    exact ⟨W, S, en, rfl, f.R, f.e.r, (q.bind f.x).mono fun d S1 W1 x1 R1 q1 v hv => q1 W1 σ (f.x.trans x1) (ExtS.refl W1) R1 (f.e.ext x1 f.R.sub)⟩
theorem snd_ret (g : GoodS CXx G P k N E b X) {e : Expr} {ir : Ex} {pos : Pos} (he : Snd own P k E X false e ir) : SndS own P k E X (.Return (some e) pos) (.ret ir) := by
  refine ps_imp (ps_ret he.1) fun D σ H q => ?_
  obtain ⟨W0, W, S, en, rfl, f, q⟩ := q
  rw [evS] at q
  exact ⟨W, S, en, rfl, f.R, f.e.r, (q.bind f.x).mono fun d S1 W1 x1 R1 q1 v hv => q1 W1 (f.x.trans x1) R1 v hv⟩
/-- an own list is given away: it changes no more -/
theorem snd_retOwn (g : GoodS CXx G P k N E b X) {x : Str} {i : Nat} {p pos : Pos} (hp : plainName x = true) (hv : Ly.vis b.sc x = true) (hi : slot N x = some i) (ho : i ∈ own) : SndS own P k E X (.Return (some (.Name x p)) pos) (.ret (.loc i)) := by
  obtain ⟨p1, p2, p3⟩ := plain_inv hp
  refine ps_imp (ps_ret (pe_var (by rw [g.g.hN]; exact slot_get hi) (g.g.vis hv) p1 p2)) fun D σ H q => ?_
  obtain ⟨W0, W, S, en, rfl, f, q⟩ := q
  rw [evS, evE] at q
  split at q
  · rename_i d hd
    obtain ⟨a, h1, h2, h3, h4⟩ := f.e.r.mine i d hd ho
    refine ⟨.ref a, h1, ?_⟩
    have ha := f.e.fresh i _ a ho hd h1
    have x : Ext W0 (W.less a) := ⟨f.x.keep, f.x.pre, fun c hc => ⟨f.x.fsub c hc, fun e => f.d0 c hc (by rw [e]; exact ha)⟩, fun c hc => f.x.fnew c hc.1, f.x.dom, f.x.rnew⟩
    cases h2 with
    | lst h2 h5 => exact q (W.less a) x (f.R.less h4) (.ref a) (.lst (.inl ⟨.inl h2, fun z => z.2 rfl⟩) h5.less)
    | dct h2 h5 o => exact q (W.less a) x (f.R.less h4) (.ref a) (.dct ⟨.inl h2, fun z => z.2 rfl⟩ h5.less o)
  · exact q.elim
theorem snd_if_ (g : GoodS CXx G P k N E b X) {c : Expr} {x y : List Stmt} {ic : Ex} {ix iy : List Ly.St} {pos : Pos} (hc : Snd own P k E X false c ic) (hx : PSs X x (tSs X.K X.mgw E own (callP P k) ix)) (hy : PSs X y (tSs X.K X.mgw E own (callP P k) iy)) : SndS own P k E X (.If c x y pos) (.ite ic ix iy) := by
  refine ps_imp (ps_if hc.2 hx hy) fun D σ H q => ?_
  obtain ⟨W0, W, S, en, rfl, f, q⟩ := q
  rw [evS] at q
  refine ⟨W, S, en, rfl, f.R, f.e.r, (q.bind f.x).mono fun d S1 W1 x1 R1 q1 => ?_⟩
  have f1 : FromS X.K X.mgw own W0 W1 S1 en σ := ⟨R1, f.x.trans x1, f.d0, f.e.ext x1 f.R.sub⟩
  split at q1
  · exact ⟨true, rfl, iteT ⟨W0, W1, S1, en, rfl, f1, q1⟩⟩
  · exact ⟨false, rfl, iteF ⟨W0, W1, S1, en, rfl, f1, q1⟩⟩
  · exact q1.elim
end
end Ly
/-! Ly: own lists, objects of the store, loops. -/
namespace Ly
open PySem PySem.Spec PyProof.Rows L2 PySem.SeqAt
section
variable {CXx : CXT} {G : Glob} {P : Prog} {k : Nat} {N : List Str} {E : XK} {b : Bl} {X : Cx} {own : List Nat}
/-! ### own lists -/
/-- a value that nobody else knows -/
def NewV (K : PySem.W.Frag) (mg : MG) (W W' : Wd) (d : Ly.D) (v : V) : Prop := ∃ p, v = .ref p ∧ W.H p = none ∧ OwnC K mg W' d p ∧ W'.F p ∧ p ∉ W'.ρ
/-- what is told of an expression that makes something new -/
def OutN (K : PySem.W.Frag) (mg : MG) (E : XK) (Wb W : Wd) (r : Re Ly.D) (Q : VK) : Prop := match r with
  | .ok d S => ∀ W' v, Ext W W' → Rep K mg W' S → NewV K mg Wb W' d v → Q v W'.H
  | .exc c fs S => ∀ W' cls od, Ext W W' → Rep K mg W' S → RepX K mg W' c fs cls od → E cls od W'.H
  | .bad => False
def tN (K : PySem.W.Frag) (mg : MG) (E : XK) (own : List Nat) (cf : CF) (ir : Ex) : TE := fun σ H Q => From K mg own σ H fun W S en => OutN K mg E W W (evE cf ir en S) Q
theorem OutN.bind {α : Type} {K : PySem.W.Frag} {mg : MG} {Wb W : Wd} {q : Re α} {f : α → Sto → Re Ly.D} {Q : VK} (h : OutN K mg E Wb W (q.bind f) Q) : Out K mg E W q fun a S W' => OutN K mg E Wb W' (f a S) Q := by
  cases q with
  | ok a S =>
    intro W' x R
    have h : OutN K mg E Wb W (f a S) Q := h
    show OutN K mg E Wb W' (f a S) Q
    cases e : f a S with
    | ok d S' => rw [e] at h; exact fun W'' v y R' n => h W'' v (x.trans y) R' n
    | exc c fs S' => rw [e] at h; exact fun W'' cls od y R' n => h W'' cls od (x.trans y) R' n
    | bad => rw [e] at h; exact h
  | exc c fs S => exact h
  | bad => exact h
theorem NewV.ext {K : PySem.W.Frag} {mg : MG} {W W1 W2 : Wd} {d : Ly.D} {v : V} (h : NewV K mg W W1 d v) (x : Ext W1 W2) (hs : ∀ a ∈ W1.ρ, W1.F a) : NewV K mg W W2 d v := by
  obtain ⟨p, rfl, h1, h2, h3, h4⟩ := h
  exact ⟨p, rfl, h1, h2.ext x hs h4, x.fsub _ h3, h2.notρ x h4⟩
/-- x = something new -/
theorem FromS.mk1 {K : PySem.W.Frag} {mg : MG} {W0 W W' : Wd} {S S' : Sto} {en : Env} {σ : L2.St} {d : Ly.D} {v : V} {i : Nat} (f : FromS K mg own W0 W S en σ) (x : Ext W W') (R : Rep K mg W' S') (hi : i ∈ own) (n : NewV K mg W W' d v) :
    SEnv K mg own W0 W' (en.set i (some d)) (σ.set i (some v)) := by
  obtain ⟨p, rfl, h1, h2, h3, h4⟩ := n
  have p0 : W0.H p = none := by
    cases q : W0.H p with
    | none => rfl
    | some o => exact absurd h1 (f.x.dom p (by rw [q]; simp))
  refine (f.e.ext x f.R.sub).mkOwn hi h2 h3 h4 p0 fun j d a hj _ e1 e2 ea => ?_
  obtain ⟨a', k1, k2, _⟩ := f.e.r.mine j d e1 hj
  rw [e2] at k1; cases k1
  obtain ⟨o, k2⟩ := k2.some
  rw [ea, h1] at k2; cases k2
theorem OutS.bindN {K : PySem.W.Frag} {mg : MG} {W0 W : Wd} {D : Ends} {q : Re Ly.D} {f : Ly.D → Sto → Re (Fl × Env)} (x0 : Ext W0 W) (h : OutS K mg E own W0 W D (q.bind f)) {Q : VK} (hq : ∀ d S, q = .ok d S → ∀ W' v, Ext W W' → Rep K mg W' S → NewV K mg W W' d v → OutS K mg E own W0 W' D (f d S) → Q v W'.H) : OutN K mg E W W q Q := by
  cases q with
  | ok a S => exact fun W' v x R n => hq a S rfl W' v x R n (OutS.ext (r := f a S) h x.z)
  | exc c fs S => exact fun W' cls od x R q => h W' cls od (x0.trans x) R q
  | bad => exact h
/-- name = something new -/
theorem snd_own (g : GoodS CXx G P k N E b X) {x : Str} {e : Expr} {ir : Ex} {i : Nat} {p pos : Pos} (hl : Ly.loc b x = true) (hi : slot N x = some i) (ho : i ∈ own) (he : PE X e (tN X.K X.mgw E own (callP P k) ir)) (hc : isComp e = false) :
    SndS own P k E X (.Assign [.Name x p] e pos) (.asg (.nm i) ir) := by
  obtain ⟨l1, l2⟩ := g.g.loc hl
  refine ps_imp (ps_set (by rw [g.g.hN]; exact g.g.nd) (by rw [g.g.hN]; exact slot_get hi) l1 he ?_ l2) fun D σ H q => ?_
  · unfold swapsWith
    cases e <;> first | rfl | cases hc
  obtain ⟨W0, W, S, en, rfl, f, q⟩ := q
  rw [evS] at q
  refine ⟨W, S, en, rfl, f.R, f.e.r, q.bindN f.x fun d S1 _ W1 v x1 R1 n q1 => ?_⟩
  rw [Tg.put] at q1
  exact q1 W1 _ (f.x.trans x1) (ExtS.refl W1) R1 (f.mk1 x1 R1 ho n)
theorem new_lst_tN (g : Good CXx G P k N E b X) {es : List Expr} {irs : List Ex} {lp : Pos} (ha : PA X es (tEs X.K X.mgw E own (callP P k) false irs)) : PE X (.List es lp) (tN X.K X.mgw E own (callP P k) (.lst irs)) := by
  refine pe_imp (pe_lst ha) fun σ H Q q => ?_
  obtain ⟨W, S, en, rfl, R, rr, q⟩ := q
  rw [evE] at q
  refine ⟨W, S, en, rfl, R, rr, q.bind.mono fun ds S1 W1 x1 R1 q1 vs hvs => ?_⟩
  have hvs : RepDs X.K X.mgw W1 ds vs := hvs
  split at q1
  · rename_i hz
    refine ⟨by rw [← hvs.length, ← line_eq]; exact hz, fun a hn => ?_⟩
    have xm : Ext W1 (W1.more a (.lst vs)) := Ext.more hn
    refine q1 (W1.more a (.lst vs)) _ xm (R1.more hn) ⟨a, rfl, ?_, .lst upd_same (hvs.ext xm R1.sub), .inr rfl, fun z => R1.dom a (R1.sub a z) hn⟩
    cases e : W.H a with
    | none => rfl
    | some o => exact absurd hn (x1.dom a (by rw [e]; simp))
  · exact (q1 : False).elim
/-- {} -/
theorem pe_dnew {pos : Pos} : PE X (.Dict [] [] pos) (fun _ H Q => ∀ p, H p = none → Q (.ref p) (upd H p (DictO p [] 0))) := ⟨fun pins s σ H Q I h =>
  wpAny_Dict_empty ⟨.ref s.heap.objs.size, _, I.laid (a := s.heap.objs.size) (o := DictO s.heap.objs.size [] 0) (t' := s.toks) (fun _ _ q => Heap.get?_push_of_some _ q) (Nat.le_refl _)
    (dictO_ok (beq_eq_false_iff_ne.mpr (Ne.symm (Nat.ne_of_lt I.big))) (Heap.get?_push_size _ rfl) ⟨rfl, rfl, rfl⟩ rfl), rfl, h _ (I.hok.fresh (Nat.le_refl _))⟩⟩
theorem new_dct_tN {lp : Pos} : PE X (.Dict [] [] lp) (tN X.K X.mgw E own (callP P k) (.cst (.dct []))) := by
  refine pe_imp pe_dnew fun σ H Q q a hn => ?_
  obtain ⟨W, S, en, rfl, R, rr, q⟩ := q
  rw [evE] at q
  have xm : Ext W (W.more a (DictO a [] 0)) := Ext.more hn
  exact q (W.more a (DictO a [] 0)) _ xm (R.more hn) ⟨a, rfl, hn, .dct upd_same .nil DOk.nil, .inr rfl, fun z => R.dom a (R.sub a z) hn⟩
/-! ### several targets at once -/
/-- values that came one by one: plain ones, new ones -/
inductive Got (K : PySem.W.Frag) (mg : MG) (Wb W : Wd) : List Bool → List Ly.D → List V → List Addr → Prop
  | nil : Got K mg Wb W [] [] [] []
  | val {d : Ly.D} {v : V} {fs : List Bool} {ds : List Ly.D} {vs : List V} {as : List Addr} : RepD K mg W d v → Got K mg Wb W fs ds vs as → Got K mg Wb W (false :: fs) (d :: ds) (v :: vs) as
  | own {d : Ly.D} {p : Addr} {fs : List Bool} {ds : List Ly.D} {vs : List V} {as : List Addr} : Wb.H p = none → OwnC K mg W d p → W.F p → p ∉ W.ρ → p ∉ as → Got K mg Wb W fs ds vs as → Got K mg Wb W (true :: fs) (d :: ds) (.ref p :: vs) (p :: as)
theorem Got.base {K : PySem.W.Frag} {mg : MG} {Wb Wb' W : Wd} {fs : List Bool} {ds : List Ly.D} {vs : List V} {as : List Addr} (h : Got K mg Wb' W fs ds vs as) (x : Ext Wb Wb') : Got K mg Wb W fs ds vs as := by
  induction h with
  | nil => exact .nil
  | val r _ ih => exact .val r ih
  | own h1 h2 h3 h4 h5 _ ih =>
    refine .own ?_ h2 h3 h4 h5 ih
    rename_i p _ _ _ _ _
    cases e : Wb.H p with
    | none => rfl
    | some o => exact absurd h1 (x.dom p (by rw [e]; simp))
theorem Got.fresh {K : PySem.W.Frag} {mg : MG} {Wb W : Wd} {fs : List Bool} {ds : List Ly.D} {vs : List V} {as : List Addr} (h : Got K mg Wb W fs ds vs as) : ∀ p ∈ as, Wb.H p = none := by
  induction h with
  | nil => intro p hp; cases hp
  | val r _ ih => exact ih
  | own h1 _ _ _ _ _ ih =>
    intro q hq
    rcases List.mem_cons.mp hq with rfl | hq
    · exact h1
    · exact ih q hq
theorem Got.length {K : PySem.W.Frag} {mg : MG} {Wb W : Wd} {fs : List Bool} {ds : List Ly.D} {vs : List V} {as : List Addr} (h : Got K mg Wb W fs ds vs as) : ds.length = vs.length := by
  induction h with
  | nil => rfl
  | val r _ ih => simp [ih]
  | own _ _ _ _ _ _ ih => simp [ih]
def OutF (K : PySem.W.Frag) (mg : MG) (E : XK) (W : Wd) (fs : List Bool) (r : Re (List Ly.D)) (Q : List V → Hp → Prop) : Prop := match r with
  | .ok ds S => ∀ W' vs as, Ext W W' → Rep K mg W' S → Got K mg W W' fs ds vs as → Q vs W'.H
  | .exc c fs S => ∀ W' cls od, Ext W W' → Rep K mg W' S → RepX K mg W' c fs cls od → E cls od W'.H
  | .bad => False
def tFs (K : PySem.W.Frag) (mg : MG) (E : XK) (own : List Nat) (cf : CF) (fs : List Bool) (irs : List Ex) : TA := fun σ H Q => From K mg own σ H fun W S en => OutF K mg E W fs (evEs cf irs en S) Q
theorem fs_nil : PA X [] (tFs X.K X.mgw E own (callP P k) [] []) := by
  refine ⟨fun pos pins s σ H Q I q => pa_nil.run pos pins s σ H Q I ?_⟩
  obtain ⟨W, S, en, rfl, R, rr, q⟩ := q
  rw [evEs] at q
  exact q W [] [] (Ext.refl W) R .nil
theorem fs_val {e : Expr} {es : List Expr} {ir : Ex} {irs : List Ex} {fs : List Bool} (he : PE X e (tE X.K X.mgw E own (callP P k) false ir)) (hr : PA X es (tFs X.K X.mgw E own (callP P k) fs irs)) (ns : noStar e = true) :
    PA X (e :: es) (tFs X.K X.mgw E own (callP P k) (false :: fs) (ir :: irs)) := by
  refine ⟨fun pos pins s σ H Q I q => (pa_cons he hr (star_cons ns)).run pos pins s σ H Q I ?_⟩
  obtain ⟨W, S, en, rfl, R, rr, q⟩ := q
  rw [evEs] at q
  show tE X.K X.mgw E own (callP P k) false ir σ W.H _
  cases e1 : evE (callP P k) ir en S with
  | bad => rw [e1] at q; exact q.elim
  | exc c fs S1 => rw [e1] at q; exact ⟨W, S, en, rfl, R, rr, by dsimp only; rw [e1]; exact q⟩
  | ok d S1 =>
    rw [e1] at q
    refine ⟨W, S, en, rfl, R, rr, ?_⟩
    dsimp only
    rw [e1]
    intro W1 x1 R1 v hv
    have hv : RepD X.K X.mgw W1 d v := hv
    have rr1 := rr.ext x1 R.sub
    refine ⟨W1, S1, en, rfl, R1, rr1, ?_⟩
    dsimp only
    have q : OutF X.K X.mgw E W (false :: fs) ((evEs (callP P k) irs en S1).bind fun xs S => .ok (d :: xs) S) Q := q
    cases e2 : evEs (callP P k) irs en S1 with
    | bad => rw [e2] at q; exact q.elim
    | exc c fs S2 => rw [e2] at q; exact fun W' cls od x R' h => q W' cls od (x1.trans x) R' h
    | ok ds S2 =>
      rw [e2] at q
      exact fun W' vs as x R' h => q W' (v :: vs) as (x1.trans x) R' (.val (hv.ext x R1.sub) (h.base x1))
theorem fs_own {e : Expr} {es : List Expr} {ir : Ex} {irs : List Ex} {fs : List Bool} (he : PE X e (tN X.K X.mgw E own (callP P k) ir)) (hr : PA X es (tFs X.K X.mgw E own (callP P k) fs irs)) (ns : noStar e = true) :
    PA X (e :: es) (tFs X.K X.mgw E own (callP P k) (true :: fs) (ir :: irs)) := by
  refine ⟨fun pos pins s σ H Q I q => (pa_cons he hr (star_cons ns)).run pos pins s σ H Q I ?_⟩
  obtain ⟨W, S, en, rfl, R, rr, q⟩ := q
  rw [evEs] at q
  show tN X.K X.mgw E own (callP P k) ir σ W.H _
  cases e1 : evE (callP P k) ir en S with
  | bad => rw [e1] at q; exact q.elim
  | exc c fs S1 => rw [e1] at q; exact ⟨W, S, en, rfl, R, rr, by dsimp only; rw [e1]; exact q⟩
  | ok d S1 =>
    rw [e1] at q
    refine ⟨W, S, en, rfl, R, rr, ?_⟩
    dsimp only
    rw [e1]
    intro W1 v x1 R1 hv
    have rr1 := rr.ext x1 R.sub
    refine ⟨W1, S1, en, rfl, R1, rr1, ?_⟩
    dsimp only
    have q : OutF X.K X.mgw E W (true :: fs) ((evEs (callP P k) irs en S1).bind fun xs S => .ok (d :: xs) S) Q := q
    cases e2 : evEs (callP P k) irs en S1 with
    | bad => rw [e2] at q; exact q.elim
    | exc c fs S2 => rw [e2] at q; exact fun W' cls od x R' h => q W' cls od (x1.trans x) R' h
    | ok ds S2 =>
      rw [e2] at q
      intro W' vs as x R' h
      obtain ⟨p, rfl, n1, n2, n3, n4⟩ := hv
      refine q W' (.ref p :: vs) (p :: as) (x1.trans x) R' (.own n1 (n2.ext x R1.sub n4) (x.fsub _ n3) (n2.notρ x n4) (fun z => ?_) (h.base x1))
      obtain ⟨o, n2⟩ := n2.some
      rw [h.fresh p z] at n2; cases n2
def putD : List Nat → List Ly.D → Env → Env
  | i :: is, d :: ds, en => putD is ds (en.set i (some d))
  | _, _, en => en
def putV : List Nat → List V → L2.St → L2.St
  | i :: is, v :: vs, σ => putV is vs (σ.set i (some v))
  | _, _, σ => σ
theorem puts_nm : ∀ (is : List Nat) (ds : List Ly.D) (en : Env), is.length = ds.length → Tg.puts (is.map .nm) ds en = some (putD is ds en)
  | [], [], en, _ => rfl
  | i :: is, d :: ds, en, h => by
    rw [List.map_cons, Tg.puts, Tg.put, Option.bind_some, puts_nm is ds _ (by simpa using h)]; rfl
  | [], _ :: _, _, h => by simp at h
  | _ :: _, [], _, h => by simp at h
theorem got_env {K : PySem.W.Frag} {mg : MG} {W0 Wb W : Wd} (hb : ∀ p, Wb.H p = none → W0.H p = none) {fs : List Bool} {ds : List Ly.D} {vs : List V} {as : List Addr} (h : Got K mg Wb W fs ds vs as) : ∀ {is : List Nat} {en : Env} {σ : L2.St}, is.map (fun i => decide (i ∈ own)) = fs →
    SEnv K mg own W0 W en σ → (∀ j d a, j ∈ own → en[j]? = some (some d) → σ[j]? = some (some (.ref a)) → a ∉ as) → SEnv K mg own W0 W (putD is ds en) (putV is vs σ) := by
  induction h with
  | nil => intro is en σ _ e _; cases is <;> exact e
  | val r _ ih =>
    intro is en σ hf e ha
    cases is with
    | nil => cases hf
    | cons i is =>
      rw [List.map_cons] at hf
      injection hf with h1 h2
      have hi : i ∉ own := by simpa using h1
      refine ih h2 (e.put (e.r.put hi r) fun l hl => ?_) fun j d a hj h1 h2 => ?_
      · have e1 : i ≠ l := fun q => hi (q ▸ hl)
        rw [List.getElem?_set_ne e1, List.getElem?_set_ne e1]
        exact ⟨rfl, rfl⟩
      · have e1 : i ≠ j := fun q => hi (q ▸ hj)
        rw [List.getElem?_set_ne e1] at h1 h2
        exact ha j d a hj h1 h2
  | own h1 h2 h3 h4 h5 _ ih =>
    intro is en σ hf e ha
    cases is with
    | nil => cases hf
    | cons i is =>
      rw [List.map_cons] at hf
      injection hf with g1 g2
      have hi : i ∈ own := by simpa using g1
      refine ih g2 (e.mkOwn hi h2 h3 h4 (hb _ h1) fun j d a hj _ k1 k2 ea => ha j d a hj k1 k2 (by rw [ea]; exact List.mem_cons_self)) fun j d a hj k1 k2 => ?_
      by_cases hij : i = j
      · subst hij
        rw [List.getElem?_set, if_pos rfl] at k2
        split at k2
        · cases k2; exact h5
        · cases k2
      · rw [List.getElem?_set_ne hij] at k1 k2
        exact fun z => ha j d a hj k1 k2 (List.mem_cons_of_mem _ z)
/-- behind the values -/
theorem par_of {ts : List Nat} {irs : List Ex} {D : Ends} {σ : L2.St} {H : Hp} (hlen : irs.length = ts.length) (q : tSt X.K X.mgw E own (callP P k) (.asg (.tup (ts.map .nm)) (.tup irs)) D σ H) :
    tFs X.K X.mgw E own (callP P k) (ts.map fun i => decide (i ∈ own)) irs σ H fun vs H1 => vs.length = ts.length ∧ vs.length ≤ line ∧ ∀ H2, (H2 = H1 ∨ ∃ p, H1 p = none ∧ H2 = upd H1 p (.tup vs)) → D.nx (putV ts vs σ) H2 := by
  obtain ⟨W0, W, S, en, rfl, f, q⟩ := q
  rw [evS, evE] at q
  refine ⟨W, S, en, rfl, f.R, f.e.r, ?_⟩
  dsimp only
  cases e1 : evEs (callP P k) irs en S with
  | bad => rw [e1] at q; exact q
  | exc c fs S1 => rw [e1] at q; exact fun W' cls od x R h => q W' cls od (f.x.trans x) R h
  | ok ds S1 =>
    rw [e1] at q
    intro W1 vs as x1 R1 h
    have hl : ds.length = ts.length := by rw [← hlen]; exact evEs_len e1
    have q : OutS X.K X.mgw E own W0 W D ((if ds.length ≤ line then Re.ok (.tup ds) S1 else .bad).bind fun x S => match (Tg.tup (ts.map .nm)).put x en with | some en' => .ok (.nx, en') S | none => .bad) := q
    split at q
    · rename_i hz
      have q : OutS X.K X.mgw E own W0 W D (match (Tg.tup (ts.map .nm)).put (.tup ds) en with | some en' => .ok (.nx, en') S1 | none => .bad) := q
      rw [show (Tg.tup (ts.map .nm)).put (.tup ds) en = some (putD ts ds en) from puts_nm ts ds en hl.symm] at q
      have es : SEnv X.K X.mgw own W0 W1 (putD ts ds en) (putV ts vs σ) := by
        refine got_env (fun p hp => ?_) h rfl (f.e.ext x1 f.R.sub) fun j d a hj k1 k2 z => ?_
        · cases e : W0.H p with
          | none => rfl
          | some o => exact absurd hp (f.x.dom p (by rw [e]; simp))
        · obtain ⟨a', l1, l2, _⟩ := f.e.r.mine j d k1 hj
          rw [k2] at l1; cases l1
          obtain ⟨o, l2⟩ := l2.some
          rw [h.fresh a z] at l2; cases l2
      refine ⟨by rw [← h.length, hl], by rw [← h.length]; exact hz, fun H2 hH => ?_⟩
      rcases hH with rfl | ⟨p, hn, rfl⟩
      · exact q W1 _ (f.x.trans x1) x1.s R1 es
      · have xn := Ext.new (o := .tup vs) hn
        exact q (W1.new p (.tup vs)) _ ((f.x.trans x1).trans xn) (x1.trans xn).s (R1.new hn) (es.ext xn R1.sub)
    · exact (q : False).elim
theorem snd_parF2 (g : GoodS CXx G P k N E b X) {x y : Str} {px py tp vp pos : Pos} {kk k2 : Nat} {a c : Expr} {i j : Nat} {irs : List Ex} (hi : N[i]? = some x) (hj : N[j]? = some y) (hij : i ≠ j)
    (lx : X.env.scope.names.lookup x = some .local) (ly : X.env.scope.names.lookup y = some .local) (hlen : irs.length = 2) (ha : PA X [a, c] (tFs X.K X.mgw E own (callP P k) ([i, j].map fun i => decide (i ∈ own)) irs))
    (hw : swappedStores [.Tuple [.Name x px, .Name y py] kk tp] (.Tuple [a, c] k2 vp) X.env = pure (some [x, y])) :
    SndS own P k E X (.Assign [.Tuple [.Name x px, .Name y py] kk tp] (.Tuple [a, c] k2 vp) pos) (.asg (.tup ([i, j].map .nm)) (.tup irs)) := by
  refine ps_imp (ps_par g.g.calm (by rw [g.g.hN]; exact g.g.nd) (by rw [g.g.hN]; exact hi) (by rw [g.g.hN]; exact hj) hij lx ly ha hw) fun D σ H q => ?_
  have q := par_of (ts := [i, j]) hlen q
  obtain ⟨W, S, en, rfl, R, rr, q⟩ := q
  refine ⟨W, S, en, rfl, R, rr, ?_⟩
  dsimp only at q ⊢
  cases e1 : evEs (callP P k) irs en S with
  | bad => rw [e1] at q; exact q
  | exc c fs S1 => rw [e1] at q; exact q
  | ok ds S1 =>
    rw [e1] at q
    intro W' vs as x R' h
    obtain ⟨h1, _, h2⟩ := q W' vs as x R' h
    match vs, h1 with
    | [v, w], _ => exact ⟨v, w, rfl, h2 _ (.inl rfl)⟩
theorem snd_parF3 (g : GoodS CXx G P k N E b X) {x y z : Str} {px py pz tp vp pos : Pos} {kk k2 : Nat} {a c c2 : Expr} {i j l : Nat} {irs : List Ex} (hi : N[i]? = some x) (hj : N[j]? = some y) (hl0 : N[l]? = some z) (hij : i ≠ j) (hil : i ≠ l) (hjl : j ≠ l)
    (lx : X.env.scope.names.lookup x = some .local) (ly : X.env.scope.names.lookup y = some .local) (lz : X.env.scope.names.lookup z = some .local) (hlen : irs.length = 3) (ha : PA X [a, c, c2] (tFs X.K X.mgw E own (callP P k) ([i, j, l].map fun i => decide (i ∈ own)) irs))
    (hw : swappedStores [.Tuple [.Name x px, .Name y py, .Name z pz] kk tp] (.Tuple [a, c, c2] k2 vp) X.env = pure (some [x, y, z])) :
    SndS own P k E X (.Assign [.Tuple [.Name x px, .Name y py, .Name z pz] kk tp] (.Tuple [a, c, c2] k2 vp) pos) (.asg (.tup ([i, j, l].map .nm)) (.tup irs)) := by
  refine ps_imp (ps_par3 g.g.calm (by rw [g.g.hN]; exact g.g.nd) (by rw [g.g.hN]; exact hi) (by rw [g.g.hN]; exact hj) (by rw [g.g.hN]; exact hl0) hij hil hjl lx ly lz ha hw) fun D σ H q => ?_
  have q := par_of (ts := [i, j, l]) hlen q
  obtain ⟨W, S, en, rfl, R, rr, q⟩ := q
  refine ⟨W, S, en, rfl, R, rr, ?_⟩
  dsimp only at q ⊢
  cases e1 : evEs (callP P k) irs en S with
  | bad => rw [e1] at q; exact q
  | exc c fs S1 => rw [e1] at q; exact q
  | ok ds S1 =>
    rw [e1] at q
    intro W' vs as x R' h
    obtain ⟨h1, _, h2⟩ := q W' vs as x R' h
    match vs, h1 with
    | [v, w, u], _ => exact ⟨v, w, u, rfl, h2 _ (.inl rfl)⟩
/-! any number of names, by a tuple -/
def gAll : List Nat → TGs
  | [] => gNil
  | i :: is => gCons (gName i) (gAll is)
theorem gAll_of : ∀ {is : List Nat} {vs : List V} {σ : L2.St} {H : Hp} {Q : L2.St → Hp → Prop}, vs.length = is.length → Q (putV is vs σ) H → gAll is vs σ H Q
  | [], [], σ, H, Q, _, q => ⟨rfl, q⟩
  | i :: is, v :: vs, σ, H, Q, h, q => ⟨v, vs, rfl, gAll_of (by simpa using h) q⟩
  | [], _ :: _, _, _, _, h, _ => by simp at h
  | _ :: _, [], _, _, _, h, _ => by simp at h
theorem names_pgs (g : Good CXx G P k N E b X) : ∀ {l : List (Str × Nat × Pos)}, (∀ q ∈ l, Ly.loc b q.1 = true ∧ slot N q.1 = some q.2.1) → PGs X (l.map fun q => Expr.Name q.1 q.2.2) (gAll (l.map fun q => q.2.1))
  | [], _ => pgs_nil
  | q :: l, h => by
    obtain ⟨h1, h2⟩ := h q List.mem_cons_self
    obtain ⟨l1, l2⟩ := g.loc h1
    rw [List.map_cons, List.map_cons]
    exact pgs_cons (pg_name (by rw [g.hN]; exact g.nd) (by rw [g.hN]; exact slot_get h2) l1 l2) (names_pgs g fun q hq => h q (List.mem_cons_of_mem _ hq)) rfl
theorem names_star (l : List (Str × Nat × Pos)) : ∀ e ∈ l.map (fun q => Expr.Name q.1 q.2.2), noStar e = true := fun e he => by
  obtain ⟨q, _, rfl⟩ := List.mem_map.mp he
  rfl
theorem snd_parN (g : GoodS CXx G P k N E b X) {l : List (Str × Nat × Pos)} {vs : List Expr} {irs : List Ex} {kk k2 : Nat} {tp vp pos : Pos} (hl : ∀ q ∈ l, Ly.loc b q.1 = true ∧ slot N q.1 = some q.2.1) (hlen : irs.length = l.length)
    (ha : PA X vs (tFs X.K X.mgw E own (callP P k) ((l.map fun p => p.2.1).map fun i => decide (i ∈ own)) irs)) (hw : swappedStores [.Tuple (l.map fun q => Expr.Name q.1 q.2.2) kk tp] (.Tuple vs k2 vp) X.env = pure none) :
    SndS own P k E X (.Assign [.Tuple (l.map fun q => Expr.Name q.1 q.2.2) kk tp] (.Tuple vs k2 vp) pos) (.asg (.tup ((l.map fun p => p.2.1).map .nm)) (.tup irs)) := by
  refine ps_imp (ps_asg (pe_tup ha) (pg_tup (n := l.length) g.g.calm (names_pgs g.g hl) (by rw [asg_len, List.length_map]) (asg_star (names_star l))) rfl hw rfl) fun D σ H q => ?_
  have q := par_of (ts := l.map fun p => p.2.1) (by rw [hlen, List.length_map]) q
  obtain ⟨W, S, en, rfl, R, rr, q⟩ := q
  refine ⟨W, S, en, rfl, R, rr, ?_⟩
  dsimp only at q ⊢
  cases e1 : evEs (callP P k) irs en S with
  | bad => rw [e1] at q; exact q
  | exc c fs S1 => rw [e1] at q; exact q
  | ok ds S1 =>
    rw [e1] at q
    intro W' vs as x R' h
    obtain ⟨h1, h2, h3⟩ := q W' vs as x R' h
    rw [List.length_map] at h1
    refine ⟨by rw [← line_eq]; exact h2, fun p hn => ⟨p, vs, rfl, .inl (.inl upd_same), h1, gAll_of (by rw [List.length_map]; exact h1) ?_⟩⟩
    exact h3 _ (.inr ⟨p, hn, rfl⟩)
/-! ### what a def gives back -/
def tRt (K : PySem.W.Frag) (mg : MG) (E : XK) (own : List Nat) (cf : CF) (ir : Ex) : TE := fun σ H Q => ∃ W0 W S en D, W.H = H ∧ FromS K mg own W0 W S en σ ∧ Q = D.rt ∧ OutS K mg E own W0 W D (evS cf (.ret ir) en S)
theorem rt_snd {e : Expr} {ir : Ex} (h : PE X e (tE X.K X.mgw E own (callP P k) false ir)) : PE X e (tRt X.K X.mgw E own (callP P k) ir) := by
  refine pe_imp h fun σ H Q q => ?_
  obtain ⟨W0, W, S, en, D, rfl, f, rfl, q⟩ := q
  rw [evS] at q
  exact ⟨W, S, en, rfl, f.R, f.e.r, (q.bind f.x).mono fun d S1 W1 x1 R1 q1 v hv => q1 W1 (f.x.trans x1) R1 v hv⟩
theorem rt_own (g : GoodS CXx G P k N E b X) {x : Str} {i : Nat} {p : Pos} (hp : plainName x = true) (hv : Ly.vis b.sc x = true) (hi : slot N x = some i) (ho : i ∈ own) : PE X (.Name x p) (tRt X.K X.mgw E own (callP P k) (.loc i)) := by
  obtain ⟨p1, p2, p3⟩ := plain_inv hp
  refine pe_imp (pe_var (by rw [g.g.hN]; exact slot_get hi) (g.g.vis hv) p1 p2) fun σ H Q q => ?_
  obtain ⟨W0, W, S, en, D, rfl, f, rfl, q⟩ := q
  rw [evS, evE] at q
  split at q
  · rename_i d hd
    obtain ⟨a, h1, h2, h3, h4⟩ := f.e.r.mine i d hd ho
    refine ⟨.ref a, h1, ?_⟩
    have ha := f.e.fresh i _ a ho hd h1
    have x : Ext W0 (W.less a) := ⟨f.x.keep, f.x.pre, fun c hc => ⟨f.x.fsub c hc, fun e => f.d0 c hc (by rw [e]; exact ha)⟩, fun c hc => f.x.fnew c hc.1, f.x.dom, f.x.rnew⟩
    cases h2 with
    | lst h2 h5 => exact q (W.less a) x (f.R.less h4) (.ref a) (.lst (.inl ⟨.inl h2, fun z => z.2 rfl⟩) h5.less)
    | dct h2 h5 o => exact q (W.less a) x (f.R.less h4) (.ref a) (.dct ⟨.inl h2, fun z => z.2 rfl⟩ h5.less o)
  · exact q.elim
theorem evS_retIte (cf : CF) (c a b : Ex) (en : Ly.Env) (S : Sto) : evS cf (.ret (.ite c a b)) en S = (evE cf c en S).bind fun x S => match x with
    | .bl true => evS cf (.ret a) en S
    | .bl false => evS cf (.ret b) en S
    | _ => .bad := by
  rw [evS, evE]
  cases evE cf c en S with
  | bad => rfl
  | exc c fs S1 => rfl
  | ok d S1 =>
    cases d with
    | bl z => cases z <;> (simp only [Re.bind]; rw [evS]; rfl)
    | _ => rfl
theorem rt_ite {c x y : Expr} {ic ix iy : Ex} {pos : Pos} (hc : Snd own P k E X false c ic) (hx : PE X x (tRt X.K X.mgw E own (callP P k) ix)) (hy : PE X y (tRt X.K X.mgw E own (callP P k) iy)) : PE X (.IfExp c x y pos) (tRt X.K X.mgw E own (callP P k) (.ite ic ix iy)) := by
  refine pe_imp (pe_ifExp hc.2 hx hy) fun σ H Q q => ?_
  obtain ⟨W0, W, S, en, D, rfl, f, rfl, q⟩ := q
  rw [evS_retIte] at q
  refine ⟨W, S, en, rfl, f.R, f.e.r, (q.bind f.x).mono fun d S1 W1 x1 R1 q1 => ?_⟩
  have f1 : FromS X.K X.mgw own W0 W1 S1 en σ := ⟨R1, f.x.trans x1, f.d0, f.e.ext x1 f.R.sub⟩
  split at q1
  · exact ⟨true, rfl, iteT ⟨W0, W1, S1, en, D, rfl, f1, rfl, q1⟩⟩
  · exact ⟨false, rfl, iteF ⟨W0, W1, S1, en, D, rfl, f1, rfl, q1⟩⟩
  · exact q1.elim
theorem snd_retR {e : Expr} {ir : Ex} {pos : Pos} (h : PE X e (tRt X.K X.mgw E own (callP P k) ir)) : SndS own P k E X (.Return (some e) pos) (.ret ir) := by
  refine ps_imp (ps_ret h) fun D σ H q => ?_
  obtain ⟨W0, W, S, en, rfl, f, q⟩ := q
  exact ⟨W0, W, S, en, D, rfl, f, rfl, q⟩
theorem few_one {e : Expr} {pos : Pos} {env : PySem.Env} (ns : noStar e = true) : ∀ y ∈ [e], noStar y = true := fun y hy => by rw [List.mem_singleton.mp hy]; exact ns
theorem snd_app (g : GoodS CXx G P k N E b X) {x : Str} {e : Expr} {ir : Ex} {i : Nat} {p apos cpos pos : Pos} (hp : plainName x = true) (hv : Ly.vis b.sc x = true) (hi : slot N x = some i) (ho : i ∈ own) (hl : oneLine apos cpos = true) (ns : noStar e = true) (he : Snd own P k E X false e ir) :
    SndS own P k E X (.Expr (.Call (.Attribute (.Name x p) ("append" : Str) apos) [e] [] cpos) pos) (.app i ir) := by
  obtain ⟨p1, p2, p3⟩ := plain_inv hp
  have pa : PA X [e] (tCons (tE X.K X.mgw E own (callP P k) false ir) tNil) := pa_cons he.1 pa_nil (star_cons ns)
  have po : PE X (.Name x p) (tVar i) := pe_var (by rw [g.g.hN]; exact slot_get hi) (g.g.vis hv) p1 p2
  refine ps_imp (ps_expr (pe_me po pa rfl hl (fun y hy => by rw [List.mem_singleton.mp hy]; exact ns) (by show 1 < 20; omega))) fun D σ H q => ?_
  obtain ⟨W0, W, S, en, rfl, f, q⟩ := q
  rw [evS] at q
  split at q
  · rename_i xs hd
    obtain ⟨a, h1, h2, h3, h4⟩ := f.e.r.mine i _ hd ho
    cases h2
    rename_i vs h5 h2
    refine ⟨.ref a, h1, "list", "list.append", _, PySem.F.plainAttrs_list, PySem.F.slot_list_append, PySem.F.type_list_append, mt_append, .inl ⟨rfl, vs, .inl (.inl h2)⟩, ?_⟩
    refine ⟨W, S, en, rfl, f.R, f.e.r, (q.bind f.x).mono fun d S1 W1 x1 R1 q1 v hv => ?_⟩
    have f1 : FromS X.K X.mgw own W0 W1 S1 en σ := ⟨R1, f.x.trans x1, f.d0, f.e.ext x1 f.R.sub⟩
    have hv : RepD X.K X.mgw W1 d v := hv
    split at q1
    · rename_i hz
      have k2 : W1.H a = some (.lst vs) := x1.keep _ _ h2 h4
      have k3 : W1.F a := x1.fsub _ h3
      have k4 : a ∉ W1.ρ := fun z => by
        rcases x1.rnew _ z with z | z
        · exact h4 z
        · rw [h2] at z; cases z
      have r1 := h5.ext x1 f.R.sub
      have ha0 := f.e.fresh i _ a ho hd h1
      have hne : W1.H a ≠ none := by rw [k2]; simp
      have xz : ExtZ (fun c => c = a) W1 (W1.at a (.lst (vs ++ [v]))) := ExtZ.at rfl hne
      have zok : ZOk (fun c => c = a) W1 := fun c q => .inl (q ▸ k3)
      have hs := f1.e.chg R1 ho hd h1 k3 k4 (.lst upd_same ((r1.append (.cons hv .nil)).extZ xz zok R1.sub))
      have xa : ExtS W1 (W1.at a (.lst (vs ++ [v]))) := ExtZ.at k3 hne
      have x0 : Ext W0 (W1.at a (.lst (vs ++ [v]))) := ext_own f1.x ha0 hne
      exact ⟨a, vs, v, rfl, rfl, k2, by rw [← r1.length, ← line_eq]; exact hz, q1 _ σ x0 xa (R1.at k3 k4) hs⟩
    · exact q1.elim
  · exact q.elim
/-! ### objects of the store -/
theorem nodup_at : ∀ {l : List Addr} {n m : Nat} {a : Addr}, l.Nodup → l[n]? = some a → l[m]? = some a → n = m
  | [], _, _, _, _, h, _ => by simp at h
  | x :: l, 0, 0, _, _, _, _ => rfl
  | x :: l, 0, m + 1, a, hn, h1, h2 => by
    simp at h1 h2
    subst h1
    exact absurd (List.mem_of_getElem? h2) (List.nodup_cons.mp hn).1
  | x :: l, n + 1, 0, a, hn, h1, h2 => by
    simp at h1 h2
    subst h2
    exact absurd (List.mem_of_getElem? h1) (List.nodup_cons.mp hn).1
  | x :: l, n + 1, m + 1, a, hn, h1, h2 => by
    simp at h1 h2
    rw [nodup_at (List.nodup_cons.mp hn).2 h1 h2]
theorem Rep.setObj {K : PySem.W.Frag} {mg : MG} {W : Wd} {S : Sto} {n : Nat} {a : Addr} {xs ys : List Ly.D} {us : List V} (R : Rep K mg W S) (h : W.ρ[n]? = some a) (r : RepDs K mg W ys us) : Rep K mg (W.at a (.lst us)) (S.set n (.lst ys)) where
  len := by rw [List.length_set]; exact R.len
  nd := R.nd
  sub := R.sub
  dom := fun c hc => by
    show upd W.H a _ c ≠ none
    by_cases e : c = a
    · subst e; rw [upd_same]; simp
    · rw [upd_ne e]; exact R.dom c hc
  obj := fun m mo c h1 h2 => by
    have hF : W.F a := R.sub a (List.mem_of_getElem? h)
    have x : ExtZ (fun q => q = a) W (W.at a (.lst us)) := ExtZ.at rfl (R.dom a hF)
    have z : ZOk (fun q => q = a) W := fun q e => .inl (by rw [e]; exact hF)
    by_cases hm : n = m
    · subst hm
      rw [show (W.at a (.lst us)).ρ = W.ρ from rfl, h] at h2
      cases h2
      rw [List.getElem?_set, if_pos rfl] at h1
      split at h1
      · cases h1
        exact ⟨us, upd_same, r.extZ x z R.sub⟩
      · cases h1
    · rw [List.getElem?_set_ne hm] at h1
      have hne : c ≠ a := fun e => by
        subst e
        exact hm (nodup_at R.nd h h2)
      cases mo with
      | lst zs =>
        obtain ⟨ws, q1, q2⟩ := R.obj m _ c h1 h2
        exact ⟨ws, by show upd W.H a _ c = _; rw [upd_ne hne]; exact q1, q2.extZ x z R.sub⟩
      | dct kvs =>
        obtain ⟨es, ep, q1, q2, q3⟩ := R.obj m _ c h1 h2
        exact ⟨es, ep, by show upd W.H a _ c = _; rw [upd_ne hne]; exact q1, q2.extZ x z R.sub, q3⟩
      | ins c' fs => exact R.obj m _ c h1 h2
      | dead => trivial
theorem Ext.setObj {W : Wd} {a : Addr} {o : HO} (h : a ∈ W.ρ) (hn : W.H a ≠ none) : Ext W (W.at a o) where
  keep := fun c u hc n => by
    show upd W.H a o c = _
    rw [upd_ne fun e => n (by rw [e]; exact h)]
    exact hc
  pre := List.prefix_refl _
  fsub := fun _ h => h
  fnew := fun _ h => .inl h
  dom := fun c hc => by
    show upd W.H a o c ≠ none
    by_cases e : c = a
    · subst e; rw [upd_same]; simp
    · rw [upd_ne e]; exact hc
  rnew := fun _ h => .inl h
theorem snd_set (g : GoodS CXx G P k N E b X) {o i v : Expr} {io ii iv : Ex} {sp pos : Pos} (h1 : Snd own P k E X false o io) (h2 : Snd own P k E X false i ii) (h3 : Snd own P k E X false v iv) (hc : isComp v = false) (hsl : ∀ lo hi st pos, i ≠ .Slice lo hi st pos) :
    SndS own P k E X (.Assign [.Subscript o i sp] v pos) (.setR io ii iv) := by
  refine ps_imp (ps_asg h3.1 (pg_sub h1.1 h2.1 set_list (by intro v; cases i <;> first | rfl | exact absurd rfl (hsl _ _ _ _))) ?_ ?_) fun D σ H q => ?_
  · show swapsWith v (some (.Subscript o i sp)) pos.line X.env = _
    unfold swapsWith
    cases v <;> first | rfl | cases hc
  · unfold swappedStores
    cases v <;> rfl
  · obtain ⟨W0, W, S, en, rfl, f, q⟩ := q
    rw [evS] at q
    refine ⟨W, S, en, rfl, f.R, f.e.r, (q.bind f.x).mono fun dv S1 W1 x1 R1 q1 vv hv => ?_⟩
    have f1 : FromS X.K X.mgw own W0 W1 S1 en σ := ⟨R1, f.x.trans x1, f.d0, f.e.ext x1 f.R.sub⟩
    refine ⟨W1, S1, en, rfl, R1, f1.e.r, (q1.bind f1.x).mono fun d2 S2 W2 x2 R2 q2 v2 hv2 => ?_⟩
    have f2 : FromS X.K X.mgw own W0 W2 S2 en σ := ⟨R2, f1.x.trans x2, f.d0, f1.e.ext x2 f1.R.sub⟩
    refine ⟨W2, S2, en, rfl, R2, f2.e.r, (q2.bind f2.x).mono fun d3 S3 W3 x3 R3 q3 v3 hv3 => ?_⟩
    have f3 : FromS X.K X.mgw own W0 W3 S3 en σ := ⟨R3, f2.x.trans x3, f.d0, f2.e.ext x3 f2.R.sub⟩
    have r1 : RepD X.K X.mgw W3 dv vv := (RepD.ext x3 R2.sub (RepD.ext x2 R1.sub hv))
    have r2 : RepD X.K X.mgw W3 d2 v2 := RepD.ext x3 R2.sub hv2
    have r3 : RepD X.K X.mgw W3 d3 v3 := hv3
    split at q3
    · rename_i S' e
      unfold setRef at e
      split at e
      · rename_i n
        split at e
        · rename_i xs i e1
          obtain ⟨j, ej, rfl⟩ := map_some e
          cases r2 with
          | ref hr =>
            rename_i a
            obtain ⟨vs, hH, rv⟩ := R3.obj n _ a e1 hr
            obtain rfl := r3.int_inv
            have hF : W3.F a := R3.sub a (List.mem_of_getElem? hr)
            have xs' : Ext W3 (W3.at a (.lst (vs.set j vv))) := Ext.setObj (List.mem_of_getElem? hr) (R3.dom a hF)
            refine ⟨a, vs, i, j, rfl, rfl, hH, ?_, ?_⟩
            · rw [← rv.length]
              exact ej
            · exact q3 _ σ (f3.x.trans xs') xs'.s (R3.setObj (xs := xs) hr (rv.set r1 j)) (f3.e.ext xs' R3.sub)
        · cases e
      · cases e
    · exact q3.elim
/-- a list display that is given away and may change -/
theorem snd_new (g : GoodS CXx G P k N E b X) {es : List Expr} {irs : List Ex} {lp pos : Pos} (ha : PA X es (tEs X.K X.mgw E own (callP P k) false irs)) : SndS own P k E X (.Return (some (.List es lp)) pos) (.ret (.new irs)) := by
  refine ps_imp (ps_ret (pe_lst ha)) fun D σ H q => ?_
  obtain ⟨W0, W, S, en, rfl, f, q⟩ := q
  rw [evS, evE] at q
  refine ⟨W, S, en, rfl, f.R, f.e.r, ((q.bind f.x).bind).mono fun ds S1 W1 x1 R1 q1 vs hvs => ?_⟩
  have f1 : FromS X.K X.mgw own W0 W1 S1 en σ := ⟨R1, f.x.trans x1, f.d0, f.e.ext x1 f.R.sub⟩
  have hvs : RepDs X.K X.mgw W1 ds vs := hvs
  split at q1
  · rename_i hz
    refine ⟨by rw [← hvs.length, ← line_eq]; exact hz, fun a hn => ?_⟩
    have hρ : a ∉ W1.ρ := fun h => R1.dom a (R1.sub a h) hn
    let W2 : Wd := ⟨W1.ρ ++ [a], fun c => W1.F c ∨ c = a, upd W1.H a (.lst vs)⟩
    have x2 : Ext W1 W2 := {
      keep := fun c u hc n => by
        show upd W1.H a _ c = _
        rw [upd_ne fun e => by rw [e, hn] at hc; cases hc]
        exact hc
      pre := ⟨[a], rfl⟩
      fsub := fun c h => .inl h
      fnew := fun c h => h.elim .inl fun e => .inr (by rw [e]; exact hn)
      dom := fun c hc => by
        show upd W1.H a _ c ≠ none
        by_cases e : c = a
        · subst e; rw [upd_same]; simp
        · rw [upd_ne e]; exact hc
      rnew := fun c h => by
        rcases List.mem_append.mp h with h | h
        · exact .inl h
        · rw [List.mem_singleton.mp h]; exact .inr hn }
    have R2 : Rep X.K X.mgw W2 (S1 ++ [.lst ds]) := {
      len := by show (W1.ρ ++ [a]).length = _; rw [List.length_append, List.length_append, R1.len]; rfl
      nd := by
        show (W1.ρ ++ [a]).Nodup
        rw [List.nodup_append]
        refine ⟨R1.nd, by simp, fun c hc d hd e => ?_⟩
        rw [List.mem_singleton.mp hd] at e
        exact hρ (e ▸ hc)
      sub := fun c h => by
        rcases List.mem_append.mp h with h | h
        · exact .inl (R1.sub c h)
        · exact .inr (List.mem_singleton.mp h)
      dom := fun c hc => by
        show upd W1.H a _ c ≠ none
        by_cases e : c = a
        · subst e; rw [upd_same]; simp
        · rw [upd_ne e]; exact R1.dom c (hc.resolve_right e)
      obj := fun n mo c h1 h2 => by
        have h2 : (W1.ρ ++ [a])[n]? = some c := h2
        by_cases hl : n < S1.length
        · rw [List.getElem?_append_left hl] at h1
          rw [List.getElem?_append_left (by rw [R1.len]; exact hl)] at h2
          refine RepO.ext x2 R1.sub (fun u hu => ?_) (R1.obj n mo c h1 h2)
          show upd W1.H a _ c = _
          rw [upd_ne fun e => hρ (by rw [← e]; exact List.mem_of_getElem? h2)]
          exact hu
        · rw [List.getElem?_append_right (by omega)] at h1
          rw [List.getElem?_append_right (by rw [R1.len]; omega), R1.len] at h2
          have e : n - S1.length = 0 := by
            cases q : n - S1.length with
            | zero => rfl
            | succ m => rw [q] at h1; simp at h1
          rw [e] at h1 h2
          simp at h1 h2
          subst h1 h2
          exact ⟨vs, upd_same, hvs.ext x2 R1.sub⟩ }
    refine q1 W2 x2 R2 W2 (f1.x.trans x2) R2 (.ref a) (.ref ?_)
    show (W1.ρ ++ [a])[S1.length]? = some a
    rw [← R1.len, List.getElem?_append_right (Nat.le_refl _)]
    simp
  · exact (q1 : False).elim
/-! ### loops -/
theorem snd_while (g : GoodS CXx G P k N E b X) {c : Expr} {body : List Stmt} {ic : Ex} {ib : List Ly.St} {pos : Pos} (hc : Snd own P k E X false c ic) (hb : PSs X body (tSs X.K X.mgw E own (callP P k) ib)) : SndS own P k E X (.While c body [] pos) (.while_ ic ib) := by
  refine ps_imp (ps_while g.po hc.2 hb) fun D σ H q => ?_
  obtain ⟨W0, W, S, en, rfl, f, q⟩ := q
  rw [evS] at q
  generalize fuel = n at q
  refine ⟨fun m σ H => ∃ W S en, W.H = H ∧ FromS X.K X.mgw own W0 W S en σ ∧ OutS X.K X.mgw E own W0 W D (whileLoop (fun en S => evE (callP P k) ic en S) (fun en S => evSs (callP P k) ib en S) m en S), ⟨n, W, S, en, rfl, f, q⟩, ?_⟩
  clear f q W S en
  rintro m σ H ⟨W, S, en, rfl, f, q⟩
  cases m with
  | zero => exact (show False from q).elim
  | succ m =>
    rw [whileLoop] at q
    refine ⟨W, S, en, rfl, f.R, f.e.r, ?_⟩
    obtain ⟨r, hr⟩ : ∃ r, evE (callP P k) ic en S = r := ⟨_, rfl⟩
    rw [hr] at q ⊢
    clear hr
    cases r with
    | bad => exact q.elim
    | exc c' fs S' => exact fun W' cls od x R q' => q W' cls od (f.x.trans x) R q'
    | ok d S1 =>
      intro W1 x1 R1
      have f1 : FromS X.K X.mgw own W0 W1 S1 en σ := ⟨R1, f.x.trans x1, f.d0, f.e.ext x1 f.R.sub⟩
      have q := OutS.ext q x1.s
      cases d <;> first | exact (show False from q).elim | skip
      rename_i bb _
      refine ⟨bb, rfl, ?_⟩
      cases bb with
      | false => exact iteF (q W1 σ f1.x (ExtS.refl W1) R1 f1.e)
      | true =>
        refine iteT ⟨fun σ' H' => ∃ W S en, W.H = H' ∧ FromS X.K X.mgw own W0 W S en σ' ∧ OutS X.K X.mgw E own W0 W D (whileLoop (fun en S => evE (callP P k) ic en S) (fun en S => evSs (callP P k) ib en S) m en S), fun σ' H' h => ⟨m, Nat.lt_succ_self _, h⟩, W0, W1, S1, en, rfl, f1, ?_⟩
        have q : OutS X.K X.mgw E own W0 W1 D (match evSs (callP P k) ib en S1 with
          | .ok (.nx, en') S'' => whileLoop (fun en S => evE (callP P k) ic en S) (fun en S => evSs (callP P k) ib en S) m en' S''
          | .ok (.cnt, en') S'' => whileLoop (fun en S => evE (callP P k) ic en S) (fun en S => evSs (callP P k) ib en S) m en' S''
          | .ok (.brk, en') S'' => .ok (.nx, en') S''
          | .ok (.ret d, en') S'' => .ok (.ret d, en') S''
          | .exc c fs S'' => .exc c fs S''
          | .bad => .bad) := q
        obtain ⟨r, hr⟩ : ∃ r, evSs (callP P k) ib en S1 = r := ⟨_, rfl⟩
        rw [hr] at q ⊢
        clear hr
        cases r with
        | bad => exact q.elim
        | exc c' fs S' => exact q
        | ok z S2 =>
          obtain ⟨fl, en2⟩ := z
          cases fl with
          | nx => exact fun W' σ' x xs R e => ⟨W', S2, en2, rfl, ⟨R, x, f.d0, e⟩, OutS.ext q xs⟩
          | ret d => exact q
          | brk => exact q
          | cnt => exact fun W' σ' x xs R e => ⟨W', S2, en2, rfl, ⟨R, x, f.d0, e⟩, OutS.ext q xs⟩
theorem snd_for (g : GoodS CXx G P k N E b X) {tg iter : Expr} {body : List Stmt} {t : Tg} {kk : Ik} {es : List Ex} {ib : List Ly.St} {pos : Pos} (hi : PI X tg iter (tI X.K X.mgw E own (callP P k) false kk es)) (hs : ∀ x, foldedSetIterable iter X.env x = pure x)
    (ht : PG X tg (tG X.K X.mgw own t)) (hb : PSs X body (tSs X.K X.mgw E own (callP P k) ib)) : SndS own P k E X (.For tg iter body [] pos) (.for_ t kk es ib) := by
  refine ps_imp (ps_for g.po g.g.calm hi ht hb hs) fun D σ H q => ?_
  obtain ⟨W0, W, S, en, rfl, f, q⟩ := q
  rw [evS] at q
  refine ⟨W, S, en, rfl, f.R, f.e.r, (q.bind f.x).mono fun ds S1 W1 x1 R1 q1 => ?_⟩
  have f1 : FromS X.K X.mgw own W0 W1 S1 en σ := ⟨R1, f.x.trans x1, f.d0, f.e.ext x1 f.R.sub⟩
  split at q1
  · exact q1.elim
  rename_i xs hw
  refine ⟨xs, hw, fun J hJ => ?_⟩
  have wk := hJ W1.F (fun a h => h)
  generalize hf : (fun (x : Ly.D) (en : Env) (S : Sto) => match t.put x en with
      | none => (Re.bad : Re (Fl × Env))
      | some en' => evSs (callP P k) ib en' S) = fb at q1
  let Iv : Nat → L2.St → Hp → Prop := fun i σ H => i ≤ xs.length ∧ ∃ W' S' en', W'.H = H ∧ FromS X.K X.mgw own W0 W' S' en' σ ∧ ExtS W1 W' ∧ still S' (watch S1 ds) = true ∧ OutS X.K X.mgw E own W0 W' D (forLoop fb (watch S1 ds) (xs.drop i) en' S')
  refine ⟨fun i m σ H => m = xs.length - i ∧ Iv i σ H, ⟨xs.length, by simp, Nat.zero_le _, W1, S1, en, rfl, f1, ExtS.refl W1, still_watch ds, q1⟩, ?_⟩
  rintro i m σ H ⟨rfl, hi, W', S', en', rfl, f', xx, st, q⟩
  by_cases hlt : i < xs.length
  · refine .inr ⟨wk.go i W' S' hlt xx f'.R st, fun σ H => Iv (i + 1) σ H, fun σ' H' h => ⟨_, by omega, rfl, h⟩, fun x H' y => ?_⟩
    obtain ⟨W2, d, rfl, x2, R2, hd, rd⟩ := wk.yld i W' S' x H' hlt xx f'.R st y
    have ed : xs.drop i = d :: xs.drop (i + 1) := by
      obtain ⟨hlt', e⟩ := List.getElem?_eq_some_iff.mp hd
      rw [List.drop_eq_getElem_cons hlt', e]
    rw [ed, forLoop, ← hf] at q
    have f2 : FromS X.K X.mgw own W0 W2 S' en' σ := ⟨R2, f'.x.trans x2, f'.d0, f'.e.ext x2 f'.R.sub⟩
    have q := OutS.ext q x2.s
    dsimp only at q
    cases hp : t.put d en' with
    | none => rw [hp] at q; exact q.elim
    | some en2 =>
      rw [hp] at q
      refine ⟨W2, S', en', d, en2, rfl, R2, f2.e.r, rd, hp, fun σ2 r2 _ o2 => ?_⟩
      have f3 : FromS X.K X.mgw own W0 W2 S' en2 σ2 := ⟨R2, f2.x, f2.d0, f2.e.put r2 o2⟩
      refine ⟨W0, W2, S', en2, rfl, f3, ?_⟩
      dsimp only at q
      obtain ⟨r, hr⟩ : ∃ r, evSs (callP P k) ib en2 S' = r := ⟨_, rfl⟩
      rw [hr] at q ⊢
      clear hr
      have again : ∀ {S2 : Sto} {en3 : Env}, (OutS X.K X.mgw E own W0 W2 D (if still S2 (watch S1 ds) = true then forLoop (fun (x : Ly.D) (en : Env) (S : Sto) => match t.put x en with | none => (Re.bad : Re (Fl × Env)) | some en' => evSs (callP P k) ib en' S) (watch S1 ds) (xs.drop (i + 1)) en3 S2 else .bad)) →
          ∀ W' σ', Ext W0 W' → ExtS W2 W' → Rep X.K X.mgw W' S2 → SEnv X.K X.mgw own W0 W' en3 σ' → Iv (i + 1) σ' W'.H := fun {S2 en3} q W' σ' x xs R e => by
        split at q
        · rename_i st2
          rw [hf] at q
          exact ⟨by omega, W', S2, en3, rfl, ⟨R, x, f'.d0, e⟩, ExtS.trans xx (ExtS.trans x2.s xs), st2, OutS.ext q xs⟩
        · exact q.elim
      cases r with
      | bad => exact q.elim
      | exc c' fs S' => exact q
      | ok z S2 =>
        obtain ⟨fl, en3⟩ := z
        cases fl with
        | nx => exact again q
        | ret d => exact q
        | brk => exact q
        | cnt => exact again q
  · have ei : i = xs.length := by omega
    subst ei
    refine .inl ⟨wk.stop W' S' xx f'.R st, ?_⟩
    rw [List.drop_length, forLoop] at q
    exact q W' σ f'.x (ExtS.refl W') f'.R f'.e
end
end Ly
/-! Ly: all statements; defs; the module. -/
namespace Ly
open PySem PySem.Spec PyProof.Rows L2 PySem.SeqAt
section
variable {CXx : CXT} {G : Glob} {P : Prog} {k : Nat} {N : List Str} {own : List Nat} {E : XK} {b : Bl} {X : Cx} {mkr : Bool}
/-- a comprehension's parts -/
theorem comp_parts (g : Good CXx G P k N E b X) {n : Nat} {ob : Bool} {elt tg iter : Expr} {ifs : List Expr} {scope : Scope} {pos : Pos} {ir : Ex} (h : cE G N own (n + 1) ob b (.ListComp elt [⟨tg, iter, ifs, 0⟩] scope pos) = some ir) :
    ∃ t kk es c e, ir = .comp ((ownOf N scope).map (·.2)) t kk es c e ∧ (∀ i ∈ t.slots, i ∈ (ownOf N scope).map (·.2)) ∧ BlkOk X.N X.env.scope scope (ownOf N scope) ∧ PI X tg iter (tI X.K X.mgw E own (callP P k) true kk es) ∧ (∀ x, foldedSetIterable iter X.env x = pure x) ∧
      (∀ (s : Shared) (H : Hp) (C : Addr) (cl : List (Str × Addr)) (fp : List Addr), PG (X.blk s H scope (compEnvC scope cl C X.env) fp) tg (tG X.K X.mgw own t)) ∧
      (∀ (s : Shared) (H : Hp) (C : Addr) (cl : List (Str × Addr)) (fp : List Addr), PTs (X.blk s H scope (compEnvC scope cl C X.env) fp) ifs (tCd X.K X.mgw E0 own (callP P k) c)) ∧
      (∀ (s : Shared) (H : Hp) (C : Addr) (cl : List (Str × Addr)) (fp : List Addr), PE (X.blk s H scope (compEnvC scope cl C X.env) fp) elt (tE X.K X.mgw E0 own (callP P k) false e)) := by
  have h : (if blkC N b.sc _ _ then _ else none) = some ir := h
  split at h
  · rename_i hk
    obtain ⟨t, h1, h⟩ := bind_some h
    split at h
    · rename_i hsl
      obtain ⟨it, h2, h⟩ := bind_some h
      obtain ⟨c, h3, h⟩ := bind_some h
      obtain ⟨e, h4, h⟩ := map_some h
      subst h
      obtain ⟨kk, es⟩ := it
      have hi := snd_iter (E := E) (own := own) (P := P) (k := k) g (st := fun ob e ir h => cE_star h) (ih := fun ob e ir h => sound_E n E ob b X e ir g h) h2
      have gb := fun s H C cl fp => g.blk scope s H C cl fp
      refine ⟨t, kk, es, c, e, rfl, fun i hi => of_decide_eq_true (List.all_eq_true.mp hsl i hi), by rw [g.hN, g.sc]; exact blkOk_by hk, hi.1, hi.2, fun s H C cl fp => snd_tg (gb s H C cl fp) 20 _ _ h1, fun s H C cl fp => ?_,
        fun s H C cl fp => (sound_E n E0 false _ _ _ _ (gb s H C cl fp) h4).1⟩
      split at h3
      · cases h3
        exact snd_if (c := none) (.inl ⟨rfl, rfl⟩)
      · obtain ⟨a, e, rfl⟩ := map_some h3
        exact snd_if (c := some _) (.inr ⟨_, _, rfl, rfl, sound_E n E0 false _ _ _ _ (gb s H C cl fp) e⟩)
      · cases h3
    · cases h
  · cases h
/-- name = [..] -/
theorem snd_setLc (g : GoodS CXx G P k N E b X) {n : Nat} {elt tg iter : Expr} {ifs : List Expr} {scope : Scope} {x : Str} {p cpos pos : Pos} {ir : Ex} {i : Nat} (h : cE G N own (n + 1) false b (.ListComp elt [⟨tg, iter, ifs, 0⟩] scope cpos) = some ir)
    (hi : slot N x = some i) (ho : i ∉ own) (hx : b.sc.names.lookup x = some .local) (hl : (p.line == cpos.line) = true) (hn : (scope.names.any fun (n, k) => n == x && (k == .local || k == .cell)) = false) :
    SndS own P k E X (.Assign [.Name x p] (.ListComp elt [⟨tg, iter, ifs, 0⟩] scope cpos) pos) (.asg (.nm i) ir) := by
  obtain ⟨t, kk, es, c, e, rfl, hsl, ok, hpi, hfs, hg, ht, he⟩ := comp_parts g.g h
  refine ps_imp (ps_setLc g.g.calm (by rw [g.g.hN]; exact g.g.nd) (by rw [g.g.hN]; exact slot_get hi) (by rw [g.g.sc]; exact hx) ?_ hpi ok hg ht he hfs) fun D σ H q => ?_
  · simp only [swapsWith]
    have hk : X.env.kindOf x = some .local := by
      show X.env.scope.names.lookup x = _
      rw [g.g.sc]; exact hx
    rw [hk, g.kind, hn]
    rw [show (Expr.ListComp elt [⟨tg, iter, ifs, 0⟩] scope cpos).pos = cpos from rfl, hl]
    rfl
  · refine tLc_of (ob := false) hsl ?_
    obtain ⟨W, S, en, e1, R, rr, q⟩ := tAsg_of q
    refine ⟨W, S, en, e1, R, rr, q.mono fun d S1 W1 x1 R1 q1 v hv => ?_⟩
    obtain ⟨W2, S2, en2, d2, en', e2, R2, r2, hd, hp, q2⟩ := q1 v hv
    rw [Tg.put] at hp
    cases hp
    rw [← e2]
    rw [← e2] at q2
    refine q2 _ (r2.put ho hd) (fun vs hvs => wipe_set (hvs i (by simp [Tg.slots]))) fun j hj => ?_
    have hij : i ≠ j := fun e => ho (e ▸ hj)
    exact ⟨List.getElem?_set_ne hij, List.getElem?_set_ne hij⟩
theorem cG_name {n : Nat} {x : Str} {p : Pos} {i : Nat} (hl : Ly.loc b x = true) (hi : slot N x = some i) (ho : i ∉ own) : cG N own b (n + 1) (.Name x p) = some (.nm i) := by
  show (if Ly.loc b x = true then (slot N x).bind fun i => if i ∈ own then none else some (Tg.nm i) else none) = _
  rw [if_pos hl, hi]
  show (if i ∈ own then none else _) = _
  rw [if_neg ho]
theorem parNames_two {ts : List Expr} {l : List (Str × Nat × Pos)} : parNames N b ts = some l → ts = l.map (fun q => Expr.Name q.1 q.2.2) ∧ ∀ q ∈ l, b.sc.names.lookup q.1 = some .local ∧ slot N q.1 = some q.2.1 := by
  induction ts generalizing l with
  | nil => intro h; cases h; exact ⟨rfl, fun q hq => by cases hq⟩
  | cons e ts ih =>
    intro h
    cases e <;> first | (cases h; done) | skip
    rename_i x p
    have h : (if b.sc.names.lookup x == some .local then (slot N x).bind fun i => (parNames N b ts).map fun l => (x, i, p) :: l else none) = some l := h
    split at h
    · rename_i hx
      obtain ⟨i, h1, h⟩ := bind_some h
      obtain ⟨r, h2, h⟩ := map_some h
      subst h
      obtain ⟨i1, i2⟩ := ih h2
      refine ⟨by rw [i1]; rfl, fun q hq => ?_⟩
      rcases List.mem_cons.mp hq with rfl | hq
      · exact ⟨by simpa using hx, h1⟩
      · exact i2 q hq
    · cases h
theorem sound_N (g : Good CXx G P k N E b X) {e : Expr} {ir : Ex} (h : cN G N own b e = some ir) : PE X e (tN X.K X.mgw E own (callP P k) ir) := by
  unfold cN at h
  split at h
  · obtain ⟨l, h1, h⟩ := map_some h
    subst h
    exact new_lst_tN g (snd_args g (fun e ir h => cE_star h) (fun e ir h => sound_E 59 E false b X e ir g h) _ _ h1).1
  · cases h
    exact new_dct_tN
  · cases h
theorem sound_par (g : Good CXx G P k N E b X) : ∀ {l : List (Str × Nat × Pos)} {vs : List Expr} {irs : List Ex}, (∀ e ∈ vs, noStar e = true) → cPar G N own b l vs = some irs → irs.length = l.length ∧ PA X vs (tFs X.K X.mgw E own (callP P k) ((l.map fun p => p.2.1).map fun i => decide (i ∈ own)) irs)
  | [], [], irs, _, h => by cases h; exact ⟨rfl, fs_nil⟩
  | p :: l, e :: vs, irs, ns, h => by
    rw [cPar] at h
    obtain ⟨a, h1, h⟩ := bind_some h
    obtain ⟨r, h2, h⟩ := map_some h
    subst h
    obtain ⟨k1, k2⟩ := sound_par g (fun x hx => ns x (List.mem_cons_of_mem _ hx)) h2
    refine ⟨by rw [List.length_cons, List.length_cons, k1], ?_⟩
    rw [List.map_cons, List.map_cons]
    split at h1
    · rename_i hi
      rw [decide_eq_true hi]
      exact fs_own (sound_N g h1) k2 (ns e List.mem_cons_self)
    · rename_i hi
      rw [decide_eq_false hi]
      exact fs_val (sound_E 59 E false b X e a g h1).1 k2 (ns e List.mem_cons_self)
  | [], _ :: _, _, _, h => by cases h
  | _ :: _, [], _, _, h => by cases h
theorem nodupB_two {a c : Nat} {r : List Nat} (h : nodupB (a :: c :: r) = true) : a ≠ c := by
  unfold nodupB at h
  have := (Bool.and_eq_true_iff.mp h).1
  have := of_decide_eq_true this
  exact fun e => this (by rw [e]; exact List.mem_cons_self)
theorem slot_inj {x y : Str} {i j : Nat} (h1 : slot N x = some i) (h2 : slot N y = some j) (h : i ≠ j) : x ≠ y := fun e => h (by subst e; rw [h1] at h2; exact Option.some.inj h2)
theorem anyNames_two {ts : List Expr} {l : List (Str × Nat × Pos)} : anyNames N b ts = some l → ts = l.map (fun q => Expr.Name q.1 q.2.2) ∧ ∀ q ∈ l, Ly.loc b q.1 = true ∧ slot N q.1 = some q.2.1 := by
  induction ts generalizing l with
  | nil => intro h; cases h; exact ⟨rfl, fun q hq => by cases hq⟩
  | cons e ts ih =>
    intro h
    cases e <;> first | (cases h; done) | skip
    rename_i x p
    have h : (if Ly.loc b x = true then (slot N x).bind fun i => (anyNames N b ts).map fun l => (x, i, p) :: l else none) = some l := h
    split at h
    · rename_i hx
      obtain ⟨i, h1, h⟩ := bind_some h
      obtain ⟨r, h2, h⟩ := map_some h
      subst h
      obtain ⟨i1, i2⟩ := ih h2
      refine ⟨by rw [i1]; rfl, fun q hq => ?_⟩
      rcases List.mem_cons.mp hq with rfl | hq
      · exact ⟨hx, h1⟩
      · exact i2 q hq
    · cases h
theorem sound_any (g : GoodS CXx G P k N E b X) {ts vs : List Expr} {kk k2 : Nat} {tp vp pos : Pos} {gen : Option Ly.St} {s : Ly.St} (hw : swappedStores [.Tuple ts kk tp] (.Tuple vs k2 vp) X.env = pure none)
    (hg : ∀ s, gen = some s → SndS own P k E X (.Assign [.Tuple ts kk tp] (.Tuple vs k2 vp) pos) s) (h : cAny G N own b ts vs gen = some s) : SndS own P k E X (.Assign [.Tuple ts kk tp] (.Tuple vs k2 vp) pos) s := by
  unfold cAny at h
  split at h
  · rename_i l h1
    split at h
    · rename_i hc
      obtain ⟨irs, h2, h⟩ := map_some h
      subst h
      simp only [Bool.and_eq_true, decide_eq_true_eq] at hc
      obtain ⟨⟨⟨hl, hnd⟩, hns⟩, h0⟩ := hc
      obtain ⟨ets, hq⟩ := anyNames_two h1
      subst ets
      have hns : ∀ e ∈ vs, noStar e = true := fun e he => by
        have := List.all_eq_true.mp hns e he
        cases e <;> first | rfl | cases this
      obtain ⟨a1, a2⟩ := sound_par (E := E) (P := P) (k := k) (X := X) g.g hns h2
      exact snd_parN g hq a1 a2 hw
    · cases h
  · exact hg _ h
theorem sound_R (g : GoodS CXx G P k N E b X) : ∀ (n : Nat) {e : Expr} {ir : Ex}, cR G N own n b e = some ir → PE X e (tRt X.K X.mgw E own (callP P k) ir)
  | 0, _, _, h => by cases h
  | n + 1, e, ir, h => by
    unfold cR at h
    split at h
    · split at h
      · rename_i hi
        split at h
        · rename_i ho
          split at h
          · rename_i hc
            cases h
            obtain ⟨c1, c2⟩ := Bool.and_eq_true_iff.mp hc
            exact rt_own g c1 c2 hi ho
          · cases h
        · exact rt_snd (sound_E 60 E false b X _ ir g.g h).1
      · exact rt_snd (sound_E 60 E false b X _ ir g.g h).1
    · obtain ⟨c, h1, h⟩ := bind_some h
      obtain ⟨x, h2, h⟩ := bind_some h
      obtain ⟨y, h3, h⟩ := map_some h
      subst h
      exact rt_ite (sound_E 60 E false b X _ c g.g h1) (sound_R g n h2) (sound_R g n h3)
    · exact rt_snd (sound_E 60 E false b X _ ir g.g h).1
theorem sound_S : ∀ (n : Nat) (st : Stmt) (s : Ly.St), GoodS CXx G P k N E b X → cS G N own mkr n b st = some s → SndS own P k E X st s
  | 0, _, _, _, h => by cases h
  | n + 1, st, s, g, h => by
    have sE : ∀ {ob : Bool} {e : Expr} {ir : Ex}, cE G N own 60 ob b e = some ir → Snd own P k E X ob e ir := fun {ob e ir} h => sound_E 60 E ob b X e ir g.g h
    have sA : ∀ {ob : Bool} {es : List Expr} {irs : List Ex}, cArgs (cE G N own 60 ob b) es = some irs → PA X es (tEs X.K X.mgw E own (callP P k) ob irs) := fun {ob es irs} h => (snd_args g.g (fun e ir h => cE_star h) (fun e ir h => sE h) _ _ h).1
    have sB : ∀ {sts : List Stmt} {ss : List Ly.St}, cS.cArgsS (cS G N own mkr n b) sts = some ss → PSs X sts (tSs X.K X.mgw E own (callP P k) ss) := fun {sts ss} h => snd_sts (fun st s h => sound_S n st s g h) _ _ h
    unfold cS at h
    split at h
    · split at h
      · rename_i hl
        obtain ⟨i, h1, h⟩ := bind_some h
        split at h
        · rename_i ho
          split at h
          · cases h
          · rename_i hc
            obtain ⟨ir, h2, h⟩ := map_some h
            subst h
            exact snd_own g hl h1 ho (sound_N g.g h2) (by simpa using hc)
        · rename_i ho
          split at h
          · split at h
            · rename_i hc
              obtain ⟨ir, h2, h⟩ := map_some h
              subst h
              simp only [Bool.and_eq_true, Bool.not_eq_true'] at hc
              exact snd_setLc (n := 59) g h2 h1 ho (by simpa using hc.1.1) hc.1.2 hc.2
            · cases h
          · split at h
            · cases h
            · rename_i hc
              obtain ⟨ir, h2, h⟩ := map_some h
              subst h
              exact snd_asg g (snd_tg g.g 1 _ _ (cG_name hl h1 ho)) rfl (sE h2) (by simpa using hc) swap_name
      · cases h
    · rename_i ts kk tp e pos
      split at h
      · rename_i vs k2 vp
        split at h
        · rename_i hlen
          split at h
          · rename_i hf
            obtain ⟨t, h1, h⟩ := bind_some h
            obtain ⟨ir, h2, h⟩ := map_some h
            subst h
            exact snd_asg g (snd_tg g.g 20 _ _ h1) rfl (sE h2) rfl (swap_folded hf)
          · rename_i hf
            split at h
            · rename_i hsw
              refine sound_any g (swap_cell g.g.sc hsw) (fun s h => ?_) h
              obtain ⟨t, h1, h⟩ := bind_some h
              obtain ⟨ir, h2, h⟩ := map_some h
              subst h
              exact snd_asg g (snd_tg g.g 20 _ _ h1) rfl (sE h2) rfl (swap_cell g.g.sc hsw)
            · split at h
              · cases h
              · rename_i hcn
                obtain ⟨l, h1, h⟩ := bind_some h
                split at h
                · rename_i hc
                  obtain ⟨irs, h2, h⟩ := map_some h
                  subst h
                  simp only [Bool.and_eq_true, decide_eq_true_eq] at hc
                  obtain ⟨⟨⟨hl, hs⟩, hnd⟩, hns⟩ := hc
                  obtain ⟨ets, hq⟩ := parNames_two h1
                  subst ets
                  have hns : ∀ e ∈ vs, noStar e = true := fun e he => by
                    have := List.all_eq_true.mp hns e he
                    cases e <;> first | rfl | cases this
                  have ha := sound_par (E := E) (P := P) (k := k) (X := X) g.g hns h2
                  have hlk : ∀ q ∈ l, X.env.scope.names.lookup q.1 = some .local := fun q hm => by rw [g.g.sc]; exact (hq q hm).1
                  match vs, l, hl, hlen, hs, hnd, hq, hlk, ha, hns, hf, hcn with
                  | [a, c], [(x, i, px), (y, j, py)], _, _, hs, hnd, hq, hlk, ha, hns, hf, hcn =>
                    obtain ⟨_, i1⟩ := hq _ List.mem_cons_self
                    obtain ⟨_, j1⟩ := hq _ (List.mem_cons_of_mem _ List.mem_cons_self)
                    have hij : i ≠ j := nodupB_two hnd
                    have hs' : (py.line == px.line) = true := List.all_eq_true.mp (show ([(y, j, py)] : List (Str × Nat × Pos)).all (fun q => q.2.2.line == px.line) = true from hs) _ List.mem_cons_self
                    exact snd_parF2 g (slot_get i1) (slot_get j1) hij (hlk _ List.mem_cons_self) (hlk _ (List.mem_cons_of_mem _ List.mem_cons_self)) ha.1 ha.2
                      (swap_two g.kind (hlk _ List.mem_cons_self) (hlk _ (List.mem_cons_of_mem _ List.mem_cons_self)) hs' (slot_inj i1 j1 hij) hns (by simpa using hf) (by simpa using hcn))
                  | [a, c, c2], [(x, i, px), (y, j, py), (z, l, pz)], _, _, hs, hnd, hq, hlk, ha, hns, hf, hcn =>
                    obtain ⟨_, i1⟩ := hq _ List.mem_cons_self
                    obtain ⟨_, j1⟩ := hq _ (List.mem_cons_of_mem _ List.mem_cons_self)
                    obtain ⟨_, l1⟩ := hq _ (List.mem_cons_of_mem _ (List.mem_cons_of_mem _ List.mem_cons_self))
                    have hij : i ≠ j := nodupB_two hnd
                    have hil : i ≠ l := fun e => by
                      unfold nodupB at hnd
                      exact of_decide_eq_true (Bool.and_eq_true_iff.mp hnd).1 (by rw [e]; exact List.mem_cons_of_mem _ List.mem_cons_self)
                    have hjl : j ≠ l := by
                      unfold nodupB at hnd
                      exact nodupB_two (Bool.and_eq_true_iff.mp hnd).2
                    have hs0 := List.all_eq_true.mp (show ([(y, j, py), (z, l, pz)] : List (Str × Nat × Pos)).all (fun q => q.2.2.line == px.line) = true from hs)
                    have hs1 : (py.line == px.line) = true := hs0 _ List.mem_cons_self
                    have hs2 : (pz.line == px.line) = true := hs0 _ (List.mem_cons_of_mem _ List.mem_cons_self)
                    have k1 := hlk _ List.mem_cons_self
                    have k2 := hlk _ (List.mem_cons_of_mem _ List.mem_cons_self)
                    have k3 := hlk _ (List.mem_cons_of_mem _ (List.mem_cons_of_mem _ List.mem_cons_self))
                    exact snd_parF3 g (slot_get i1) (slot_get j1) (slot_get l1) hij hil hjl k1 k2 k3 ha.1 ha.2
                      (swap_three g.kind k1 k2 k3 hs1 hs2 (slot_inj i1 j1 hij) (slot_inj i1 l1 hil) (slot_inj j1 l1 hjl) hns (by simpa using hf) (by simpa using hcn))
                · cases h
        · rename_i hlen
          refine sound_any g (swap_length (by simpa using hlen)) (fun s h => ?_) h
          obtain ⟨t, h1, h⟩ := bind_some h
          obtain ⟨ir, h2, h⟩ := map_some h
          subst h
          exact snd_asg g (snd_tg g.g 20 _ _ h1) rfl (sE h2) rfl (swap_length (by simpa using hlen))
      · rename_i hnt
        split at h
        · cases h
        · rename_i hc
          obtain ⟨t, h1, h⟩ := bind_some h
          obtain ⟨ir, h2, h⟩ := map_some h
          subst h
          exact snd_asg g (snd_tg g.g 20 _ _ h1) rfl (sE h2) (by simpa using hc) (swap_other fun vs k p e => hnt vs k p e)
    · split at h
      · cases h
      · rename_i hsl
        split at h
        · cases h
        · rename_i hc
          obtain ⟨iv, h1, h⟩ := bind_some h
          obtain ⟨io, h2, h⟩ := bind_some h
          obtain ⟨ii, h3, h⟩ := map_some h
          subst h
          exact snd_set g (sE h2) (sE h3) (sE h1) (by simpa using hc) fun lo hi st pos e => hsl lo hi st pos e
    · split at h
      · rename_i hc
        obtain ⟨i, h1, h⟩ := bind_some h
        split at h
        · rename_i hc2
          obtain ⟨a, h2, h⟩ := map_some h
          subst h
          simp only [Bool.and_eq_true, decide_eq_true_eq] at hc hc2
          obtain ⟨rfl, hl⟩ := hc
          exact snd_app g hc2.1.2 hc2.1.1 h1 hc2.2 hl (cE_star h2) (sE h2)
        · cases h
      · cases h
    · split at h
      · obtain ⟨ir, h1, h⟩ := map_some h
        subst h
        exact snd_expr g (sE h1) rfl
      · cases h
    · split at h
      · split at h
        · obtain ⟨l, h1, h⟩ := map_some h
          subst h
          exact snd_new g (sA h1)
        · obtain ⟨ir, h1, h⟩ := map_some h
          subst h
          exact snd_ret g (sE h1)
      · obtain ⟨ir, h1, h⟩ := map_some h
        subst h
        exact snd_retR (sound_R g 20 h1)
    · cases h
      refine ps_imp ps_retN fun D σ H q => ?_
      obtain ⟨W0, W, S, en, rfl, f, q⟩ := q
      rw [evS] at q
      exact q W f.x f.R .non .non
    · obtain ⟨c, h1, h⟩ := bind_some h
      obtain ⟨x, h2, h⟩ := bind_some h
      obtain ⟨y, h3, h⟩ := map_some h
      subst h
      exact snd_if_ g (sE h1) (sB h2) (sB h3)
    · obtain ⟨t, h1, h⟩ := bind_some h
      obtain ⟨it, h2, h⟩ := bind_some h
      obtain ⟨ib, h3, h⟩ := map_some h
      subst h
      obtain ⟨kk, es⟩ := it
      have hi := snd_iter (E := E) (own := own) (P := P) (k := k) g.g (st := fun ob e ir h => cE_star h) (ih := fun ob e ir h => sE h) h2
      exact snd_for g hi.1 hi.2 (snd_tg g.g 20 _ _ h1) (sB h3)
    · obtain ⟨c, h1, h⟩ := bind_some h
      obtain ⟨ib, h2, h⟩ := map_some h
      subst h
      exact snd_while g (sE h1) (sB h2)
    · cases h
      refine ps_imp ps_never fun D σ H q => ?_
      obtain ⟨W0, W, S, en, rfl, f, q⟩ := q
      rw [evS] at q
      exact q
    · cases h
      refine ps_imp ps_pass fun D σ H q => ?_
      obtain ⟨W0, W, S, en, rfl, f, q⟩ := q
      rw [evS] at q
      exact q W σ f.x (ExtS.refl W) f.R f.e
    · cases h
      refine ps_imp ps_break fun D σ H q => ?_
      obtain ⟨W0, W, S, en, rfl, f, q⟩ := q
      rw [evS] at q
      exact q W σ f.x (ExtS.refl W) f.R f.e
    · cases h
      refine ps_imp ps_continue fun D σ H q => ?_
      obtain ⟨W0, W, S, en, rfl, f, q⟩ := q
      rw [evS] at q
      exact q W σ f.x (ExtS.refl W) f.R f.e
    · cases h
end
end Ly
/-! Ly: the module's defs, by the evaluator. -/
namespace Ly
open PySem PySem.Spec PyProof.Rows L2 PySem.SeqAt

/-! ### binding -/
theorem zip_lookup : ∀ {ps : List Str} {us : List Value} {x : Str}, us.length = ps.length → x ∈ ps → ((ps.zip us).lookup x).isSome = true
  | [], _, _, _, h => by cases h
  | p :: ps, [], _, h, _ => by simp at h
  | p :: ps, u :: us, x, hl, h => by
    rw [List.zip_cons_cons, List.lookup_cons]
    by_cases e : x == p
    · rw [e]; rfl
    · rw [show (x == p) = false by simpa using e]
      refine zip_lookup (by simpa using hl) ?_
      rcases List.mem_cons.mp h with rfl | h
      · simp at e
      · exact h
theorem zip_filter : ∀ {ps : List Str} {us : List Value} {l : List (Str × Value)}, us.length = ps.length → ps.Nodup → (∀ p ∈ ps.zip us, l.lookup p.1 = some p.2) → (ps.filterMap fun n => (l.lookup n).map (n, ·)) = ps.zip us
  | [], us, l, h, _, _ => by simp
  | p :: ps, [], _, h, _, _ => by simp at h
  | p :: ps, u :: us, l, hl, hn, h => by
    rw [List.zip_cons_cons, List.filterMap_cons]
    have e := h (p, u) (by rw [List.zip_cons_cons]; exact List.mem_cons_self)
    dsimp only at e
    rw [e]
    dsimp only [Option.map_some]
    rw [zip_filter (by simpa using hl) (List.nodup_cons.mp hn).2 fun q hq => h q (by rw [List.zip_cons_cons]; exact List.mem_cons_of_mem _ hq)]
theorem zip_get : ∀ {ps : List Str} {us : List Value}, us.length = ps.length → ps.Nodup → ∀ p ∈ ps.zip us, (ps.zip us).lookup p.1 = some p.2
  | [], us, h, _, p, hp => by simp at hp
  | x :: ps, [], h, _, p, hp => by simp at h
  | x :: ps, u :: us, hl, hn, p, hp => by
    rw [List.zip_cons_cons] at hp ⊢
    rw [List.lookup_cons]
    rcases List.mem_cons.mp hp with rfl | hp
    · simp
    · have hne : p.1 ≠ x := fun e => (List.nodup_cons.mp hn).1 (by rw [← e]; exact (List.of_mem_zip (a := p.1) (b := p.2) hp).1)
      rw [show (p.1 == x) = false by simpa using hne]
      exact zip_get (by simpa using hl) (List.nodup_cons.mp hn).2 p hp
theorem bind_plain {x qual : Str} {as : List Arg} {body : List Stmt} {scope : Scope} {kV doc pm : Value} {an : Option Addr} {cdv ct : Value} {us : List Value} (hl : us.length = (as.map (·.arg)).length) (hn : (as.map (·.arg)).Nodup) :
    bindArgs (PySem.W.fnOf x qual ⟨[], as, none, [], [], none, []⟩ body scope .none kV doc pm an cdv ct) ⟨us, []⟩ = pure ((as.map (·.arg)).zip us) := by
  generalize hps : as.map (·.arg) = ps at *
  have hg := zip_get hl hn
  have hf := zip_filter hl hn hg
  have hm : ps.filter (fun n => ((ps.zip us).lookup n).isNone) = [] := by
    rw [List.filter_eq_nil_iff]
    intro a ha
    have := zip_lookup hl ha
    cases q : (ps.zip us).lookup a <;> simp_all
  have hd : seqItems? Value.none = pure none := rfl
  simp only [bindArgs, PySem.W.fnOf, List.map_nil, List.nil_append, hps, List.forIn_nil, pure_bind, hd]
  have z : ¬ us.length > ps.length := by omega
  simp [z, hl, hm, hf]

/-! ### a def -/
def dOf (it : Item) : Stmt → Option He.DefD
  | .FunctionDef _ args body [] none [] scope none _ _ => some ⟨(it.name, none), it.name, it.name, args, body, scope, [], []⟩
  | _ => none
theorem argNames_eq {args : Arguments} {ps : List Str} (h : argNames args = some ps) : ∃ as, args = ⟨[], as, none, [], [], none, []⟩ ∧ as.map (·.arg) = ps := by
  unfold argNames at h
  split at h
  · cases h
    exact ⟨_, rfl, rfl⟩
  · cases h
theorem slot_start {ds : List D} {n i : Nat} {d : D} (h : (ds.map some ++ List.replicate n none)[i]? = some (some d)) : i < ds.length ∧ ds[i]? = some d := by
  by_cases hi : i < ds.length
  · rw [List.getElem?_append_left (by simpa using hi)] at h
    refine ⟨hi, ?_⟩
    rw [List.getElem?_map] at h
    cases q : ds[i]? with
    | none => rw [q] at h; cases h
    | some e => rw [q] at h; cases h; rfl
  · rw [List.getElem?_append_right (by simpa using Nat.le_of_not_lt hi)] at h
    rw [List.getElem?_replicate] at h
    split at h
    · cases h
    · cases h
section
variable {P0 : Program} {w : World} {K : PySem.W.Frag} {mg : Str → Option Value}
/-- how the module stands -/
structure Lay (K : PySem.W.Frag) (mg : Str → Option Value) (w : World) (G : Glob) (body : List Stmt) (items : List Item) : Prop where
  consts : ∀ x d, G.consts.lookup x = some d → ∃ v u, mg x = some u ∧ RelV v u ∧ ∀ W : Wd, RepD K ⟨mg, w⟩ W d v
  free : ∀ x, x ∈ G.free → mg x = none
  fns : ∀ x, x ∈ G.fns → x ∈ items.map (·.name)
  defs : ∀ it ∈ items, ∀ st d, body[it.at_]? = some st → dOf it st = some d → ∃ f fd, mg it.name = some (.ref f) ∧ FunD K d.name d.qual d.params d.body d.scope [] [] f fd
theorem mkProg_look {G : Glob} {body : List Stmt} : ∀ {items : List Item} {P : Prog} {it : Item}, nodupS (items.map (·.name)) = true → mkProg G body items = some P → it ∈ items → ∃ st f, body[it.at_]? = some st ∧ cF G it st = some f ∧ P.lookup it.name = some f
  | [], _, _, _, _, h => by cases h
  | i0 :: items, P, it, hn, h, hm => by
    obtain ⟨st, h1, h⟩ := bind_some h
    obtain ⟨f, h2, h⟩ := bind_some h
    obtain ⟨P', h3, h⟩ := map_some h
    subst h
    have hn' : (decide (i0.name ∉ items.map (·.name)) && nodupS (items.map (·.name))) = true := hn
    obtain ⟨n1, n2⟩ := Bool.and_eq_true_iff.mp hn'
    rcases List.mem_cons.mp hm with rfl | hm
    · exact ⟨st, f, h1, h2, by simp⟩
    · obtain ⟨st', f', k1, k2, k3⟩ := mkProg_look n2 h3 hm
      refine ⟨st', f', k1, k2, ?_⟩
      rw [List.lookup_cons]
      have : it.name ≠ i0.name := fun e => of_decide_eq_true n1 (by rw [← e]; exact List.mem_map.mpr ⟨it, hm, rfl⟩)
      rw [show (it.name == i0.name) = false by simpa using this]
      exact k3
theorem cF_inv {G : Glob} {it : Item} {st : Stmt} {f : Fn} (h : cF G it st = some f) : ∃ as body scope pos bind,
    st = .FunctionDef it.name ⟨[], as, none, [], [], none, []⟩ body [] none [] scope none bind pos ∧ as.map (·.arg) = it.ps ∧ scopeOk it.N it.ps scope = true ∧ (∀ i ∈ it.own, it.ps.length ≤ i) ∧
    ∃ b, cS.cArgsS (cS G it.N it.own it.mkr 30 ⟨scope, fun _ => true⟩) body = some b ∧ f = ⟨it.ps.length, it.N.length, b⟩ := by
  unfold cF at h
  split at h
  · rename_i name args body scope bind pos
    split at h
    · rename_i hc
      simp only [Bool.and_eq_true, decide_eq_true_eq] at hc
      obtain ⟨⟨⟨⟨c1, c2⟩, c3⟩, c4⟩, c5⟩ := hc
      obtain ⟨as, rfl, e2⟩ := argNames_eq c4
      obtain ⟨b, h1, h⟩ := map_some h
      subst c1
      exact ⟨as, body, scope, pos, bind, rfl, e2, c3, fun i hi => of_decide_eq_true (List.all_eq_true.mp c5 i hi), b, h1, h.symm⟩
    · cases h
  · cases h
theorem nodupS_ok : ∀ {l : List Str}, nodupS l = true → l.Nodup
  | [], _ => List.nodup_nil
  | x :: l, h => by
    have h : (decide (x ∉ l) && nodupS l) = true := h
    obtain ⟨h1, h2⟩ := Bool.and_eq_true_iff.mp h
    exact List.nodup_cons.mpr ⟨of_decide_eq_true h1, nodupS_ok h2⟩
theorem scope_ok {N ps : List Str} {sc : Scope} (h : scopeOk N ps sc = true) : FnScope N ps sc ∧ sc.kind = .function := by
  unfold scopeOk kindFn at h
  simp only [Bool.and_eq_true, decide_eq_true_eq, Bool.not_eq_true'] at h
  obtain ⟨⟨⟨⟨⟨⟨h1, h2⟩, h3⟩, h4⟩, h5⟩, h6⟩, h7⟩ := h
  have hk : sc.kind = .function := by
    split at h1
    · assumption
    · cases h1
  refine ⟨⟨hk, h3, h2, nodupS_ok h4, h5, fun x hx => ?_, fun y hy e => ?_⟩, hk⟩
  · have := List.all_eq_true.mp h6 x hx
    split at this
    · exact .inl (by assumption)
    · exact .inr (by assumption)
    · cases this
  · have := List.all_eq_true.mp h7 y hy
    rw [e] at this
    cases this
/-- every def of the module, at every depth of calls -/
theorem defs_ok {G : Glob} {body : List Stmt} {items : List Item} {P : Prog} (hP : mkProg G body items = some P) (hn : nodupS (items.map (·.name)) = true) (L : Lay K mg w G body items) : ∀ (k : Nat) (it : Item), it ∈ items →
    ∃ f fd, mg it.name = some (.ref f) ∧ PySem.W.keepIn K (.ref f) = true ∧ Binds K fd it.ps [] ∧ (∀ (s : Shared) (us : List Value), us.length = it.ps.length → BindsTo s fd ⟨us, []⟩ (it.ps.zip us)) ∧
      ∀ base : Heap, FnOk P0 w K mg base (L2.CX P0 w) (k + 1) f fd it.ps (spF K ⟨mg, w⟩ P k it.name)
  | 0, it, hm => by
    obtain ⟨st, fn, k1, k2, k3⟩ := mkProg_look hn hP hm
    obtain ⟨as, bd, scope, pos, bind, rfl, e2, sok, how, b, hb, rfl⟩ := cF_inv k2
    obtain ⟨f, fd, m1, F⟩ := L.defs it hm _ _ k1 rfl
    have hnd : it.ps.Nodup := by
      have S := (scope_ok sok).1
      rw [← S.pre]
      exact S.nd.sublist (List.take_sublist _ _)
    have hbd := fun (kV doc pm : Value) (an : Option Addr) (cdv ct : Value) (us : List Value) (hl : us.length = it.ps.length) => (by
      have := bind_plain (x := it.name) (qual := it.name) (as := as) (body := bd) (scope := scope) (kV := kV) (doc := doc) (pm := pm) (an := an) (cdv := cdv) (ct := ct) (us := us) (by rw [e2]; exact hl) (by rw [e2]; exact hnd)
      rw [e2] at this
      exact this : bindArgs (PySem.W.fnOf it.name it.name ⟨[], as, none, [], [], none, []⟩ bd scope .none kV doc pm an cdv ct) ⟨us, []⟩ = pure (it.ps.zip us))
    refine ⟨f, fd, m1, F.kp, F.bindsN hbd, F.bindsA hbd, fun base => ⟨fun vs H Q E h => ?_, fun A outer s H args us vs Q E _ _ _ _ h => ?_⟩⟩
    · obtain ⟨_, _, _, _, _, _, q⟩ := h
      exact q.elim
    · obtain ⟨_, _, _, _, _, _, q⟩ := h
      exact q.elim
  | k + 1, it, hm => by
    obtain ⟨st, fn, k1, k2, k3⟩ := mkProg_look hn hP hm
    obtain ⟨as, bd, scope, pos, bind, rfl, e2, sok, how, b, hb, rfl⟩ := cF_inv k2
    obtain ⟨f, fd, m1, F⟩ := L.defs it hm _ _ k1 rfl
    obtain ⟨S, hkind⟩ := scope_ok sok
    have hnd : it.ps.Nodup := by
      rw [← S.pre]
      exact S.nd.sublist (List.take_sublist _ _)
    have hpl : it.ps.length ≤ it.N.length := by have := congrArg List.length S.pre; rw [List.length_take] at this; omega
    have hbd := fun (kV doc pm : Value) (an : Option Addr) (cdv ct : Value) (us : List Value) (hl : us.length = it.ps.length) => (by
      have := bind_plain (x := it.name) (qual := it.name) (as := as) (body := bd) (scope := scope) (kV := kV) (doc := doc) (pm := pm) (an := an) (cdv := cdv) (ct := ct) (us := us) (by rw [e2]; exact hl) (by rw [e2]; exact hnd)
      rw [e2] at this
      exact this : bindArgs (PySem.W.fnOf it.name it.name ⟨[], as, none, [], [], none, []⟩ bd scope .none kV doc pm an cdv ct) ⟨us, []⟩ = pure (it.ps.zip us))
    have ulk : ∀ (ds : List D) (S : Sto), callP P (k + 1) it.name ds S = if ds.length = it.ps.length then
        (match evSs (callP P k) b (ds.map some ++ List.replicate (it.N.length - it.ps.length) none) S with
        | .ok (.ret d, _) S' => Re.ok d S'
        | .ok (.nx, _) S' => .ok .non S'
        | .exc c fs S' => .exc c fs S'
        | _ => .bad) else .bad := fun ds S => by
      first | (rw [callP, k3]; done) | (rw [callP, k3]; rfl)
    refine ⟨f, fd, m1, F.kp, F.bindsN hbd, F.bindsA hbd, fun base => F.ok S (fun vs H Q E h => ?_) fun cdv A outer s H vs Q E hr h => ?_⟩
    · obtain ⟨W, St, ds, _, _, hds, q⟩ := h
      rw [ulk] at q
      split at q
      · rename_i hl
        rw [← hds.length]; exact hl
      · exact q.elim
    · refine ⟨tSs K ⟨mg, w⟩ E it.own (callP P k) b, ?_, ?_⟩
      · have tk := L2.takes_of (X := cxOf (L2.CX P0 w) P0 w K mg base it.N it.name scope f cdv A outer s H E) rfl rfl rfl (E := E) rfl
        have gd : GoodS (L2.CX P0 w) G P k it.N E ⟨scope, fun _ => true⟩ (cxOf (L2.CX P0 w) P0 w K mg base it.N it.name scope f cdv A outer s H E) := {
          g := {
            calm := rfl
            hN := rfl
            nd := S.nd
            sc := rfl
            fo := fun _ _ => rfl
            room := hr
            pass := fun pins σ H s e s' I c => L2.passes_call tk (fun _ _ _ _ h => h) pins σ H s e s' I c
            e0 := fun outer H s e s' z => by
              obtain ⟨_, _, _, _, _, _, _, _, _, _, _, _, z⟩ := z
              exact z.elim
            consts := L.consts
            free := L.free
            fns := fun x hx => by
              obtain ⟨it', hi', rfl⟩ := List.mem_map.mp (L.fns x hx)
              obtain ⟨f', fd', a1, a2, a3, _, a4⟩ := defs_ok hP hn L k it' hi'
              exact ⟨f', fd', it'.ps, a1, a2, a3, a4 base⟩ }
          po := L2.passes_of rfl
          kind := by
            show (if scope.kind.isAnnotationScope then ScopeKind.function else scope.kind) = _
            rw [hkind]; rfl }
        exact snd_sts (fun st s h => sound_S 30 st s gd h) _ _ hb
      · obtain ⟨W, St, ds, rfl, R, hds, q⟩ := h
        rw [ulk] at q
        split at q
        · rename_i hl
          have hlv : vs.length = it.ps.length := by rw [← hds.length]; exact hl
          refine ⟨W, W, St, ds.map some ++ List.replicate (it.N.length - it.ps.length) none, rfl, ⟨R, Ext.refl W, R.dom, ⟨⟨?_, fun i d h _ => ?_, fun i d h hi => ?_, fun i j d e a b hi _ _ h _ _ _ => ?_⟩, fun i d a hi h _ => ?_⟩⟩, ?_⟩
          · unfold L2.start
            rw [List.length_append, List.length_append, List.length_map, List.length_map, List.length_replicate, List.length_replicate, hl, hlv]
          · obtain ⟨h1, h2⟩ := slot_start h
            obtain ⟨v, h3, h4⟩ := hds.get h2
            refine ⟨v, ?_, h4⟩
            unfold L2.start
            rw [List.getElem?_append_left (by rw [List.length_map, ← hds.length]; exact h1), List.getElem?_map, h3]
            rfl
          · have := how i hi
            have := (slot_start h).1
            omega
          · have := how i hi
            have := (slot_start h).1
            omega
          · have := how i hi
            have := (slot_start h).1
            omega
          · generalize evSs (callP P k) b (ds.map some ++ List.replicate (it.N.length - it.ps.length) none) St = r at q
            cases r with
            | bad => exact q.elim
            | exc c fs S' => exact fun W' cls od x R q' => q W' cls od x R q'
            | ok z S' =>
              obtain ⟨fl, en'⟩ := z
              cases fl with
              | nx => exact fun W' σ' x xs R e => q W' x R .non .non
              | ret d => exact fun W' x R v hv => q W' x R v hv
              | brk => exact q.elim
              | cnt => exact q.elim
        · exact q.elim
end
end Ly
/-! Ly: a law's end. -/
namespace Ly
open PySem PySem.Spec PyProof.Rows L2 PySem.SeqAt

def faC : Str × D → He.Fa
  | (x, .int i) => .int x i
  | (x, .str s) => .str x s
  | (x, _) => .glo x
def constOk : Str × D → Bool
  | (_, .int _) => true
  | (_, .str _) => true
  | _ => false
def faOf (G : Glob) : List He.Fa := G.fns.map .glo ++ (G.free.map .free ++ G.consts.map faC)
def fnOf' (body : List Stmt) (items : List Item) : List He.DefD := items.filterMap fun it => (body[it.at_]?).bind (dOf it)
theorem look_mem {x : Str} {d : D} : ∀ {l : List (Str × D)}, l.lookup x = some d → (x, d) ∈ l
  | [], h => by cases h
  | (y, e) :: l, h => by
    rw [List.lookup_cons] at h
    by_cases q : x == y
    · rw [q] at h
      cases h
      rw [show x = y by simpa using q]
      exact List.mem_cons_self
    · rw [show (x == y) = false by simpa using q] at h
      exact List.mem_cons_of_mem _ (look_mem h)
theorem lay_of {G : Glob} {body : List Stmt} {items : List Item} (hG : G.fns = items.map (·.name)) (hc : G.consts.all constOk = true) {K : PySem.W.Frag} {h : Heap} {mg : Str → Option Value} {w : World} (X : K.In h) (Gn : h.Ns mainGlobals mg)
    (c : He.SaysD (faOf G) (fnOf' body items) K) : Lay K mg w G body items where
  consts := fun x d hx => by
    have hm := look_mem hx
    have hf := c.facts (f := faC (x, d)) (List.mem_append_right _ (List.mem_append_right _ (List.mem_map.mpr ⟨_, hm, rfl⟩)))
    have hk := List.all_eq_true.mp hc _ hm
    cases d <;> first | (cases hk; done) | skip
    · obtain ⟨t, e⟩ := He.int_ok X Gn hf
      exact ⟨.int _, _, e, ⟨t, rfl⟩, fun W => .int _⟩
    · obtain ⟨t, e⟩ := He.str_ok X Gn hf
      exact ⟨.str _, _, e, ⟨t, rfl⟩, fun W => .str _⟩
  free := fun x hx => He.free_ok X Gn (c.facts (List.mem_append_right _ (List.mem_append_left _ (List.mem_map.mpr ⟨_, hx, rfl⟩))))
  fns := fun x hx => by rw [← hG]; exact hx
  defs := fun it hm st d h1 h2 => by
    have hd : d ∈ fnOf' body items := List.mem_filterMap.mpr ⟨it, hm, by rw [h1]; exact h2⟩
    obtain ⟨fd, F⟩ := c.defs hd
    have hg := He.glo_ok X Gn (c.facts (List.mem_append_left _ (List.mem_map.mpr ⟨it.name, by rw [hG]; exact List.mem_map.mpr ⟨it, hm, rfl⟩, rfl⟩)))
    have e : d.at_ = (it.name, none) ∧ d.dfl = [] ∧ d.kwd = [] := by
      unfold dOf at h2
      split at h2
      · cases h2; exact ⟨rfl, rfl, rfl⟩
      · cases h2
    obtain ⟨e1, e2, e3⟩ := e
    refine ⟨_, fd, hg, ?_⟩
    unfold He.DefD.dvs He.DefD.kws at F
    rw [e1, e2, e3] at F
    exact F
/-- the law's promise, from the evaluator -/
theorem law_sp {K : PySem.W.Frag} {mg : Str → Option Value} {w : World} {P : Prog} {k : Nat} {x : Str} {ns : List Int} {S' : Sto} (h : callP P k x [.lst (ns.map D.int)] [] = .ok (.bl true) S') {H : Hp} {a : Addr} (hS : SqL K H a (ns.map V.int)) :
    spF K ⟨mg, w⟩ P k x [.ref a] H (fun v _ => v = .bl true) fun _ _ _ => False := by
  let W : Wd := ⟨[], fun _ => False, H⟩
  have hr : RepDs K ⟨mg, w⟩ W (ns.map D.int) (ns.map V.int) := by
    clear hS h
    induction ns with
    | nil => exact .nil
    | cons n ns ih => exact .cons (.int n) ih
  have hl : LAt K W a (ns.map V.int) := hS.elim (fun q => .inl ⟨q, fun z => z⟩) .inr
  refine ⟨W, [], [.lst (ns.map D.int)], rfl, ⟨rfl, List.nodup_nil, fun a h => by simp [W] at h, fun a h => h.elim, fun n mo a h => by simp at h⟩, .cons (.lst hl hr) .nil, ?_⟩
  rw [h]
  exact fun W' x R v hv => hv.bl_inv
/-- at the top nothing is let out -/
theorem FnOk.top {P : Program} {w : World} {K : PySem.W.Frag} {mg : Str → Option Value} {base : Heap} {k : Nat} {f : Addr} {fd : FuncData} {ps : List Str} {sp : Sp} (F : FnOk P w K mg base (L2.CX P w) k f fd ps sp) :
    FnOk P w K mg base (fun _ _ _ _ _ _ => False) k f fd ps (fun vs H Q _ => sp vs H Q fun _ _ _ => False) :=
  ⟨fun vs H Q _ h => F.len vs H Q _ h, fun A outer s H args us vs Q E hr he hb hv hs => codeAny_mono (F.run A outer s H args us vs Q _ hr he hb hv hs) fun r s' h => by
    cases r with
    | ok x => cases x <;> exact h
    | error e =>
      obtain ⟨_, _, _, _, _, _, _, _, _, _, _, _, z⟩ := h
      exact z.elim⟩
/-- the walk's part of a law -/
theorem law_walk {l : PySem.W.OpenLaw} {q : Program} {loose : List Str} {XP : (Str → Option Value) → Heap → Prop} {d : DefRec} {G : Glob} {items : List Item} {P : Prog} {k n : Nat} {xs : Str} {it : Item} {m : Nat}
    (hn : l.most = some n) (hn2 : n ≤ sizeLine) (hdf : d.params.defaults = []) (hr : Room (k + 1) callerA)
    (hP : mkProg G l.prog.main.body items = some P) (hnd : nodupS (items.map (·.name)) = true) (hG : G.fns = items.map (·.name)) (hc : G.consts.all constOk = true)
    (hit : items[m]? = some it) (hps : it.ps = [xs]) (hname : d.name = it.name)
    (hlaw : ∀ ns : List Int, ns.length ≤ n → ∃ S', callP P k it.name [.lst (ns.map D.int)] [] = .ok (.bl true) S') :
    PySem.W.WalkO q loose XP (fun _ h => ∃ K : PySem.W.Frag, K.In h ∧ He.SaysD (faOf G) (fnOf' l.prog.main.body items) K) l.row.toRowW d [] (fun f vs => PySem.call f vs) := by
  refine L2.walk_ofE (l := l) (n := n) (k := k + 1) (x := xs) (CX := fun _ _ _ _ _ _ => False) hn hn2 hdf hr ?_ (fun _ _ _ _ z => z)
  intro w mg fa h Y G' hmg
  obtain ⟨K, KX, c⟩ := Y
  have hm : it ∈ items := List.mem_of_getElem? hit
  obtain ⟨f, fd, m1, _, _, b, F⟩ := defs_ok (P0 := l.prog) (w := w) hP hnd (lay_of hG hc KX G' c) k it hm
  rw [hname, m1] at hmg
  cases hmg
  rw [hps] at b
  refine ⟨K, fd, fun vs H Q _ => spF K ⟨mg, w⟩ P k it.name vs H Q fun _ _ _ => False, KX, fun s u => b s [u] rfl, fun H a ns hl _ hS => ?_, fun base _ _ => ?_⟩
  · obtain ⟨S', e⟩ := hlaw ns hl
    exact law_sp e hS
  · have := FnOk.top (F base)
    rw [hps] at this
    exact this
end Ly
/-! Ly: for the plain laws: runs of the evaluator. -/
namespace Ly
open PySem

section
variable {P : Prog} {k : Nat} {f : Str} {fn : Fn} {ds : List D} {S S' : Sto} {d : D} {en' : Env}
theorem call_ret (h : P.lookup f = some fn) (hl : ds.length = fn.np) (e : evSs (callP P k) fn.body (ds.map some ++ List.replicate (fn.ns - fn.np) none) S = .ok (.ret d, en') S') : callP P (k + 1) f ds S = .ok d S' := by
  rw [callP, h]
  dsimp only
  rw [if_pos hl, e]
theorem call_nx (h : P.lookup f = some fn) (hl : ds.length = fn.np) (e : evSs (callP P k) fn.body (ds.map some ++ List.replicate (fn.ns - fn.np) none) S = .ok (.nx, en') S') : callP P (k + 1) f ds S = .ok .non S' := by
  rw [callP, h]
  dsimp only
  rw [if_pos hl, e]
theorem bind_ok' {α β : Type} (a : α) (S : Sto) (f : α → Sto → Re β) : (Re.ok a S).bind f = f a S := id rfl
theorem lift_some {α : Type} (a : α) (S : Sto) : lift (some a) S = .ok a S := id rfl
theorem eqOk_ii (a b : Int) : eqOk (.int a) (.int b) = true := id rfl
theorem eqv_ii (a b : Int) : D.eqv (.int a) (.int b) = decide (a = b) := by rw [D.eqv]; rfl
theorem eqOk_ss (a b : Str) : eqOk (.str a) (.str b) = true := id rfl
theorem eqv_ss (a b : Str) : D.eqv (.str a) (.str b) = decide (a = b) := by
  rw [D.eqv]
  by_cases h : a = b
  · subst h; simp
  · simp [h]
theorem ltOk_ii (a b : Int) : D.ltOk (.int a) (.int b) = true := id rfl
theorem lt_ii (a b : Int) : D.lt (.int a) (.int b) = decide (a < b) := by rw [D.lt]
theorem l1 : 1 ≤ line := by decide
theorem l2 : 2 ≤ line := by decide
theorem l4 : 4 ≤ line := by decide
theorem l3 : 3 ≤ line := by decide
/-! sequences -/
theorem evSs_nil {cf : CF} {en : Env} : evSs cf [] en S = .ok (.nx, en) S := by rw [evSs]
theorem evSs_nx {cf : CF} {s : St} {r : List St} {en en1 : Env} {S1 : Sto} (h : evS cf s en S = .ok (.nx, en1) S1) : evSs cf (s :: r) en S = evSs cf r en1 S1 := by
  rw [evSs, h]
  rfl
theorem evSs_ret {cf : CF} {s : St} {r : List St} {en en1 : Env} {S1 : Sto} {d : D} (h : evS cf s en S = .ok (.ret d, en1) S1) : evSs cf (s :: r) en S = .ok (.ret d, en1) S1 := by
  rw [evSs, h]
  rfl
end
theorem evS_ite_t {cf : CF} {c : Ex} {a b : List St} {en : Env} {S S1 : Sto} {r : Re (Fl × Env)} (h : evE cf c en S = .ok (.bl true) S1) (h2 : evSs cf a en S1 = r) : evS cf (.ite c a b) en S = r := by
  rw [evS, h]
  exact h2
theorem evS_ite_f {cf : CF} {c : Ex} {a b : List St} {en : Env} {S S1 : Sto} {r : Re (Fl × Env)} (h : evE cf c en S = .ok (.bl false) S1) (h2 : evSs cf b en S1 = r) : evS cf (.ite c a b) en S = r := by
  rw [evS, h]
  exact h2
theorem evS_ret {cf : CF} {e : Ex} {en : Env} {S S1 : Sto} {d : D} (h : evE cf e en S = .ok d S1) : evS cf (.ret e) en S = .ok (.ret d, en) S1 := by
  rw [evS, h]
  rfl
/-- the body of a for, of a comprehension -/
def bodyF (cf : CF) (t : Tg) (b : List St) : D → Env → Sto → Re (Fl × Env) := fun x en S => match t.put x en with
  | none => .bad
  | some en' => evSs cf b en' S
theorem evS_for {cf : CF} {t : Tg} {kk : Ik} {es : List Ex} {b : List St} {en : Env} {S S1 : Sto} {ds xs : List D} {w : List (Nat × Option MO)} {r : Re (Fl × Env)} (h1 : evEs cf es en S = .ok ds S1) (h2 : walk S1 kk ds = some xs) (h3 : watch S1 ds = w)
    (h4 : forLoop (bodyF cf t b) w xs en S1 = r) : evS cf (.for_ t kk es b) en S = r := by
  rw [evS, h1]
  show (match walk S1 kk ds with | none => (Re.bad : Re (Fl × Env)) | some xs => forLoop (bodyF cf t b) (watch S1 ds) xs en S1) = r
  rw [h2, h3]
  exact h4
def bodyC (cf : CF) (vs : List Nat) (tg : Tg) (c : Option Ex) (e : Ex) (en : Env) : D → Sto → Re (Option D) := fun x S => match tg.put x (wipeE en vs) with
  | none => .bad
  | some en' => (evC cf c en' S).bind fun b S => if b then (evE cf e en' S).bind fun y S => .ok (some y) S else .ok none S
theorem evE_comp {cf : CF} {vs : List Nat} {t : Tg} {kk : Ik} {es : List Ex} {c : Option Ex} {e : Ex} {en : Env} {S S1 : Sto} {ds xs : List D} {w : List (Nat × Option MO)} {r : Re D} (h1 : evEs cf es en S = .ok ds S1) (h2 : walk S1 kk ds = some xs) (h3 : watch S1 ds = w) (hl : xs.length ≤ line)
    (h4 : compLoop (bodyC cf vs t c e en) w xs [] S1 = r) : evE cf (.comp vs t kk es c e) en S = r := by
  rw [evE, h1]
  show (match walk S1 kk ds with | none => (Re.bad : Re D) | some xs => if xs.length ≤ line then compLoop (bodyC cf vs t c e en) (watch S1 ds) xs [] S1 else .bad) = r
  rw [h2, h3]
  dsimp only
  rw [if_pos hl]
  exact h4
/-! loops -/
theorem forLoop_inv {f : D → Env → Sto → Re (Fl × Env)} {w : List (Nat × Option MO)} (Q : Nat → Env → Sto → Prop) : ∀ (xs : List D) (i : Nat) (en : Env) (S : Sto),
    (∀ j x en S, xs[j]? = some x → Q (i + j) en S → ∃ en' S', f x en S = .ok (.nx, en') S' ∧ still S' w = true ∧ Q (i + j + 1) en' S') → Q i en S → ∃ en' S', forLoop f w xs en S = .ok (.nx, en') S' ∧ Q (i + xs.length) en' S'
  | [], i, en, S, _, h => ⟨en, S, rfl, h⟩
  | x :: xs, i, en, S, hs, h => by
    obtain ⟨en1, S1, e1, e2, h1⟩ := hs 0 x en S rfl h
    obtain ⟨en2, S2, e3, h2⟩ := forLoop_inv Q xs (i + 1) en1 S1 (fun j y en S hy hq => by
      have := hs (j + 1) y en S (by simpa using hy) (by rw [show i + (j + 1) = i + 1 + j by omega]; exact hq)
      rw [show i + (j + 1) = i + 1 + j by omega] at this
      exact this) h1
    refine ⟨en2, S2, ?_, ?_⟩
    · rw [forLoop, e1]
      dsimp only
      rw [if_pos e2, e3]
    · rw [List.length_cons, show i + (xs.length + 1) = i + 1 + xs.length by omega]
      exact h2
/-- a loop that folds: the slots by what is held and the last item -/
theorem forLoop_fold {α β : Type} {f : D → Env → Sto → Re (Fl × Env)} {S : Sto} (g : α → D) (en : β → Option α → Env) (step : β → α → β) (Pb : β → Prop) : ∀ (xs : List α) (b : β) (l : Option α), Pb b →
    (∀ b l a, Pb b → a ∈ xs → f (g a) (en b l) S = .ok (.nx, en (step b a) (some a)) S ∧ Pb (step b a)) → ∃ l', forLoop f [] (xs.map g) (en b l) S = .ok (.nx, en (xs.foldl step b) l') S ∧ Pb (xs.foldl step b)
  | [], b, l, h, _ => ⟨l, rfl, h⟩
  | x :: xs, b, l, h, hs => by
    obtain ⟨e, h1⟩ := hs b l x h List.mem_cons_self
    obtain ⟨l', e2, h2⟩ := forLoop_fold g en step Pb xs (step b x) (some x) h1 fun b l a hb ha => hs b l a hb (List.mem_cons_of_mem _ ha)
    refine ⟨l', ?_, h2⟩
    rw [List.map_cons, forLoop, e]
    exact e2
theorem compLoop_map {f : D → Sto → Re (Option D)} {S : Sto} {w : List (Nat × Option MO)} (hw : still S w = true) (g : D → D) : ∀ (xs acc : List D), (∀ x ∈ xs, f x S = .ok (some (g x)) S) → compLoop f w xs acc S = .ok (.lst (acc ++ xs.map g)) S
  | [], acc, _ => by rw [compLoop, List.map_nil, List.append_nil]
  | x :: xs, acc, h => by
    rw [compLoop, h x List.mem_cons_self]
    dsimp only
    rw [if_pos hw, compLoop_map hw g xs _ fun y hy => h y (List.mem_cons_of_mem _ hy), List.map_cons, List.append_assoc]
    rfl
theorem compLoop_inv {f : D → Sto → Re (Option D)} {w : List (Nat × Option MO)} (Q : List D → Sto → Prop) : ∀ (xs acc : List D) (S : Sto), (∀ x acc S, x ∈ xs → Q acc S → ∃ y S', f x S = .ok (some y) S' ∧ still S' w = true ∧ Q (acc ++ [y]) S') → Q acc S →
    ∃ ys S', compLoop f w xs acc S = .ok (.lst (acc ++ ys)) S' ∧ ys.length = xs.length ∧ Q (acc ++ ys) S'
  | [], acc, S, _, h => ⟨[], S, by rw [compLoop, List.append_nil], rfl, by rw [List.append_nil]; exact h⟩
  | x :: xs, acc, S, hs, h => by
    obtain ⟨y, S1, e1, e2, h1⟩ := hs x acc S List.mem_cons_self h
    obtain ⟨ys, S2, e3, hl, h2⟩ := compLoop_inv Q xs (acc ++ [y]) S1 (fun x acc S hx => hs x acc S (List.mem_cons_of_mem _ hx)) h1
    refine ⟨y :: ys, S2, ?_, by rw [List.length_cons, List.length_cons, hl], ?_⟩
    · rw [compLoop, e1]
      dsimp only
      rw [if_pos e2, e3, List.append_assoc]
      rfl
    · rw [List.append_assoc] at h2
      exact h2
/-- a while loop by a measure -/
theorem while_inv {c : Env → Sto → Re D} {f : Env → Sto → Re (Fl × Env)} (Q : Env → Sto → Prop) (μ : Env → Nat) (R : Env → Sto → Prop) (hs : ∀ en S, Q en S → (c en S = .ok (.bl false) S ∧ R en S) ∨ (c en S = .ok (.bl true) S ∧ ∃ en' S', f en S = .ok (.nx, en') S' ∧ Q en' S' ∧ μ en' < μ en)) :
    ∀ (n : Nat) (en : Env) (S : Sto), μ en < n → Q en S → ∃ en' S', whileLoop c f n en S = .ok (.nx, en') S' ∧ R en' S'
  | 0, _, _, h, _ => by omega
  | n + 1, en, S, h, q => by
    rcases hs en S q with ⟨e, r⟩ | ⟨e, en', S', e2, q', hm⟩
    · exact ⟨en, S, by rw [whileLoop, e], r⟩
    · obtain ⟨en2, S2, e3, r⟩ := while_inv Q μ R hs n en' S' (by omega) q'
      exact ⟨en2, S2, by rw [whileLoop, e]; dsimp only; rw [e2]; exact e3, r⟩
end Ly
/-! Ly: what a run of the evaluator ends in, by continuations. -/
namespace Ly
open PySem

/-- the run ends well, and what comes then holds -/
def W {α : Type} (r : Re α) (Q : α → Sto → Prop) : Prop := ∃ a S, r = .ok a S ∧ Q a S
section
variable {α β : Type}
theorem W_ok (a : α) (S : Sto) (Q : α → Sto → Prop) : W (.ok a S) Q = Q a S := by
  apply propext
  constructor
  · rintro ⟨_, _, h, q⟩; cases h; exact q
  · intro q; exact ⟨_, _, rfl, q⟩
theorem W_bind (r : Re α) (f : α → Sto → Re β) (Q : β → Sto → Prop) : W (r.bind f) Q = W r fun a S => W (f a S) Q := by
  apply propext
  constructor
  · rintro ⟨b, S, h, q⟩
    cases r with
    | ok a S1 => exact ⟨a, S1, rfl, b, S, h, q⟩
    | exc c fs S1 => cases h
    | bad => cases h
  · rintro ⟨a, S1, rfl, b, S, h, q⟩
    exact ⟨b, S, h, q⟩
theorem W.eq {r : Re α} {a : α} {S : Sto} (h : W r fun b T => b = a ∧ T = S) : r = .ok a S := by
  obtain ⟨b, T, h, rfl, rfl⟩ := h
  exact h
theorem W.of {r : Re α} {a : α} {S : Sto} {Q : α → Sto → Prop} (h : r = .ok a S) (q : Q a S) : W r Q := ⟨_, _, h, q⟩
theorem W.mono {r : Re α} {Q Q' : α → Sto → Prop} (h : W r Q) (i : ∀ a S, Q a S → Q' a S) : W r Q' := by
  obtain ⟨a, S, e, q⟩ := h
  exact ⟨a, S, e, i a S q⟩
end
theorem vw_non (S : Sto) : view S .non = .non := id rfl
theorem vw_int (S : Sto) (i : Int) : view S (.int i) = .int i := id rfl
theorem vw_bl (S : Sto) (i : Bool) : view S (.bl i) = .bl i := id rfl
theorem vw_str (S : Sto) (i : Str) : view S (.str i) = .str i := id rfl
theorem vw_tup (S : Sto) (i : List D) : view S (.tup i) = .tup i := id rfl
theorem vw_lst (S : Sto) (i : List D) : view S (.lst i) = .lst i := id rfl
/-- the rest of a sequence -/
def nxt (cf : CF) (r : List St) : Fl × Env → Sto → Re (Fl × Env) := fun q S => match q with
  | (.nx, en') => evSs cf r en' S
  | (f, en') => .ok (f, en') S
theorem evSs_cons (cf : CF) (s : St) (r : List St) (en : Env) (S : Sto) : evSs cf (s :: r) en S = (evS cf s en S).bind (nxt cf r) := by
  rw [evSs]
  rfl
theorem evSs_none (cf : CF) (en : Env) (S : Sto) : evSs cf [] en S = .ok (.nx, en) S := by rw [evSs]
theorem nxt_nx (cf : CF) (r : List St) (en : Env) (S : Sto) : nxt cf r (.nx, en) S = evSs cf r en S := id rfl
theorem nxt_ret (cf : CF) (r : List St) (d : D) (en : Env) (S : Sto) : nxt cf r (.ret d, en) S = .ok (.ret d, en) S := id rfl
/-- what a def gives back -/
def retQ (Q : D → Sto → Prop) : Fl × Env → Sto → Prop := fun q S => match q.1 with
  | .ret d => Q d S
  | .nx => Q .non S
  | _ => False
theorem retQ_ret (Q : D → Sto → Prop) (d : D) (en : Env) (S : Sto) : retQ Q (.ret d, en) S = Q d S := id rfl
theorem retQ_nx (Q : D → Sto → Prop) (en : Env) (S : Sto) : retQ Q (.nx, en) S = Q .non S := id rfl
theorem W_call {P : Prog} {k : Nat} {f : Str} {fn : Fn} {ds : List D} {S : Sto} {Q : D → Sto → Prop} (hk : 1 ≤ k) (h : P.lookup f = some fn) (hl : ds.length = fn.np)
    (e : ∀ j, k = j + 1 → W (evSs (callP P j) fn.body (ds.map some ++ List.replicate (fn.ns - fn.np) none) S) (retQ Q)) : W (callP P k f ds S) Q := by
  obtain ⟨j, rfl⟩ : ∃ j, k = j + 1 := ⟨k - 1, by omega⟩
  obtain ⟨⟨fl, en⟩, S', e, q⟩ := e j rfl
  cases fl with
  | ret d => exact ⟨d, S', call_ret h hl e, q⟩
  | nx => exact ⟨.non, S', call_nx h hl e, q⟩
  | brk => exact q.elim
  | cnt => exact q.elim
/-! ### loops -/
theorem W_forLoop {α : Type} {f : D → Env → Sto → Re (Fl × Env)} {w : List (Nat × Option MO)} {Q : Fl × Env → Sto → Prop} (g : α → D) (l : List α) (I : List α → Env → Sto → Prop) :
    ∀ (suf pre : List α) (en : Env) (S : Sto), l = pre ++ suf → I pre en S → (∀ pre a suf en S, l = pre ++ a :: suf → I pre en S → W (f (g a) en S) fun q S' => q.1 = .nx ∧ still S' w = true ∧ I (pre ++ [a]) q.2 S') →
    (∀ en S, I l en S → Q (.nx, en) S) → W (forLoop f w (suf.map g) en S) Q
  | [], pre, en, S, e, h, _, q => by
    rw [List.append_nil] at e
    subst e
    exact ⟨_, _, rfl, q _ _ h⟩
  | a :: suf, pre, en, S, e, h, hs, q => by
    obtain ⟨⟨fl, en1⟩, S1, e1, rfl, e2, h1⟩ := hs pre a suf en S e h
    obtain ⟨r, S2, e3, q2⟩ := W_forLoop g l I suf (pre ++ [a]) en1 S1 (by rw [e, List.append_assoc]; rfl) h1 hs q
    refine ⟨r, S2, ?_, q2⟩
    rw [List.map_cons, forLoop, e1]
    dsimp only
    rw [if_pos e2]
    exact e3
theorem still_nil (S : Sto) : still S [] = true := id rfl
/-- a walk of a for: over the values g a for a in l; I holds after each beginning of l -/
theorem W_for {α : Type} {cf : CF} {t : Tg} {kk : Ik} {es : List Ex} {b : List St} {en : Env} {S : Sto} {Q : Fl × Env → Sto → Prop} (g : α → D)
    (h : W (evEs cf es en S) fun ds S1 => ∃ (l : List α) (I : List α → Env → Sto → Prop), walk S1 kk ds = some (l.map g) ∧ watch S1 ds = [] ∧ I [] en S1 ∧
      (∀ pre a suf en S, l = pre ++ a :: suf → I pre en S → W (bodyF cf t b (g a) en S) fun q S' => q.1 = .nx ∧ I (pre ++ [a]) q.2 S') ∧ ∀ en S, I l en S → Q (.nx, en) S) : W (evS cf (.for_ t kk es b) en S) Q := by
  obtain ⟨ds, S1, h1, l, I, h2, h3, h0, hs, q⟩ := h
  obtain ⟨r, S2, e, q2⟩ := W_forLoop (f := bodyF cf t b) (w := []) g l I l [] en S1 rfl h0 (fun pre a suf en S e h => (hs pre a suf en S e h).mono fun q S' h => ⟨h.1, rfl, h.2⟩) q
  exact ⟨r, S2, evS_for h1 h2 h3 e, q2⟩
theorem W_while {cf : CF} {c : Ex} {b : List St} {en : Env} {S : Sto} {Q : Fl × Env → Sto → Prop} (I : Env → Sto → Prop) (μ : Env → Nat) (h0 : I en S) (hμ : μ en < fuel)
    (hs : ∀ en S, I en S → (evE cf c en S = .ok (.bl false) S ∧ Q (.nx, en) S) ∨ (evE cf c en S = .ok (.bl true) S ∧ W (evSs cf b en S) fun q S' => q.1 = .nx ∧ I q.2 S' ∧ μ q.2 < μ en)) : W (evS cf (.while_ c b) en S) Q := by
  obtain ⟨en', S', e, q⟩ := while_inv (c := fun en S => evE cf c en S) (f := fun en S => evSs cf b en S) I μ (fun en S => Q (.nx, en) S) (fun en S h => by
    rcases hs en S h with h | ⟨h, ⟨fl, en'⟩, S', e, rfl, h2, h3⟩
    · exact .inl h
    · exact .inr ⟨h, en', S', e, h2, h3⟩) fuel en S hμ h0
  refine ⟨_, _, ?_, q⟩
  rw [evS]
  exact e
theorem W_compLoop {α : Type} {f : D → Sto → Re (Option D)} {w : List (Nat × Option MO)} {Q : D → Sto → Prop} (g : α → D) (l : List α) (I : List α → List D → Sto → Prop) :
    ∀ (suf pre : List α) (acc : List D) (S : Sto), l = pre ++ suf → I pre acc S → (∀ pre a suf acc S, l = pre ++ a :: suf → I pre acc S → W (f (g a) S) fun y S' => still S' w = true ∧ I (pre ++ [a]) (match y with | some y => acc ++ [y] | none => acc) S') →
    (∀ acc S, I l acc S → Q (.lst acc) S) → W (compLoop f w (suf.map g) acc S) Q
  | [], pre, acc, S, e, h, _, q => by
    rw [List.append_nil] at e
    subst e
    exact ⟨_, _, rfl, q _ _ h⟩
  | a :: suf, pre, acc, S, e, h, hs, q => by
    obtain ⟨y, S1, e1, e2, h1⟩ := hs pre a suf acc S e h
    obtain ⟨r, S2, e3, q2⟩ := W_compLoop g l I suf (pre ++ [a]) _ S1 (by rw [e, List.append_assoc]; rfl) h1 hs q
    refine ⟨r, S2, ?_, q2⟩
    rw [List.map_cons, compLoop, e1]
    dsimp only
    rw [if_pos e2]
    exact e3
theorem W_comp {α : Type} {cf : CF} {vs : List Nat} {t : Tg} {kk : Ik} {es : List Ex} {c : Option Ex} {e : Ex} {en : Env} {S : Sto} {Q : D → Sto → Prop} (g : α → D)
    (h : W (evEs cf es en S) fun ds S1 => ∃ (l : List α) (I : List α → List D → Sto → Prop), walk S1 kk ds = some (l.map g) ∧ watch S1 ds = [] ∧ l.length ≤ line ∧ I [] [] S1 ∧
      (∀ pre a suf acc S, l = pre ++ a :: suf → I pre acc S → W (bodyC cf vs t c e en (g a) S) fun y S' => I (pre ++ [a]) (match y with | some y => acc ++ [y] | none => acc) S') ∧
      ∀ acc S, I l acc S → Q (.lst acc) S) : W (evE cf (.comp vs t kk es c e) en S) Q := by
  obtain ⟨ds, S1, h1, l, I, h2, h3, hl, h0, hs, q⟩ := h
  obtain ⟨r, S2, e, q2⟩ := W_compLoop (f := bodyC cf vs t c e en) (w := []) g l I l [] [] S1 rfl h0 (fun pre a suf acc S e h => (hs pre a suf acc S e h).mono fun y S' h => ⟨rfl, h⟩) q
  exact ⟨r, S2, evE_comp h1 h2 h3 (by rw [List.length_map]; exact hl) e, q2⟩
/-- a comprehension that leaves the store alone -/
theorem comp_pure {α : Type} {cf : CF} {vs : List Nat} {t : Tg} {kk : Ik} {es : List Ex} {c : Option Ex} {e : Ex} {en : Env} {S : Sto} {ds : List D} (g : α → D) (l : List α) (h : α → Option D)
    (h1 : evEs cf es en S = .ok ds S) (h2 : walk S kk ds = some (l.map g)) (h3 : watch S ds = []) (hl : l.length ≤ line)
    (hs : ∀ a ∈ l, bodyC cf vs t c e en (g a) S = .ok (h a) S) : evE cf (.comp vs t kk es c e) en S = .ok (.lst (l.filterMap h)) S := by
  apply W.eq
  refine W_comp g (W.of h1 ⟨l, (fun pre acc T => acc = pre.filterMap h ∧ T = S), h2, h3, hl, ⟨rfl, rfl⟩, (fun pre a suf acc T e i => ?_), (fun acc T i => ⟨by rw [i.1], i.2⟩)⟩)
  obtain ⟨rfl, rfl⟩ := i
  refine W.of (hs a (by rw [e]; simp)) ⟨?_, rfl⟩
  rw [List.filterMap_append, List.filterMap_cons, List.filterMap_nil]
  cases h a <;> simp
theorem filterMap_some {α β : Type} (f : α → β) : ∀ l : List α, l.filterMap (fun a => some (f a)) = l.map f
  | [] => rfl
  | a :: l => by rw [List.filterMap_cons, List.map_cons, filterMap_some f l]
theorem comp_map {α : Type} {cf : CF} {vs : List Nat} {t : Tg} {kk : Ik} {es : List Ex} {c : Option Ex} {e : Ex} {en : Env} {S : Sto} {ds : List D} (g : α → D) (l : List α) (h : α → D)
    (h1 : evEs cf es en S = .ok ds S) (h2 : walk S kk ds = some (l.map g)) (h3 : watch S ds = []) (hl : l.length ≤ line)
    (hs : ∀ a ∈ l, bodyC cf vs t c e en (g a) S = .ok (some (h a)) S) : evE cf (.comp vs t kk es c e) en S = .ok (.lst (l.map h)) S := by
  rw [comp_pure g l (fun a => some (h a)) h1 h2 h3 hl hs, filterMap_some]
theorem keep_map {α β : Type} (p : α → Bool) (g : α → β) : ∀ l : List α, l.filterMap (fun a => if p a then some (g a) else none) = (l.filter p).map g
  | [] => rfl
  | a :: l => by
    rw [List.filterMap_cons, List.filter_cons]
    cases p a with
    | true => simp only [if_true, List.map_cons]; rw [keep_map p g l]
    | false => simp only [Bool.false_eq_true, if_false]; rw [keep_map p g l]
/-- a comprehension that keeps some -/
theorem comp_keep {α : Type} {cf : CF} {vs : List Nat} {t : Tg} {kk : Ik} {es : List Ex} {c : Option Ex} {e : Ex} {en : Env} {S : Sto} {ds : List D} (g : α → D) (l : List α) (p : α → Bool)
    (h1 : evEs cf es en S = .ok ds S) (h2 : walk S kk ds = some (l.map g)) (h3 : watch S ds = []) (hl : l.length ≤ line)
    (hs : ∀ a ∈ l, bodyC cf vs t c e en (g a) S = .ok (if p a then some (g a) else none) S) : evE cf (.comp vs t kk es c e) en S = .ok (.lst ((l.filter p).map g)) S := by
  rw [comp_pure g l (fun a => if p a then some (g a) else none) h1 h2 h3 hl hs]
  rw [keep_map]
end Ly
/-! Ly: the helpers that all laws share, for any program that has them. -/
namespace Ly
open PySem
/-- a store whose first list is the cup -/
def Cup (a b : Int) (R : Sto) : Sto := .lst [.int a, .int b] :: R
section
variable {P : Prog} {k : Nat} {a b : Int} {R : Sto}
theorem cup_view : view (Cup a b R) (.ref 0) = .lst [.int a, .int b] := id rfl
theorem ix0 (x y : D) : idx (.lst [x, y]) (.int 0) = some x := id rfl
theorem ix1 (x y : D) : idx (.lst [x, y]) (.int 1) = some y := id rfl
theorem set0 {v : Int} : setRef (Cup a b R) (.ref 0) (.int 0) (.int v) = some (Cup v b R) := id rfl
theorem set1 {v : Int} : setRef (Cup a b R) (.ref 0) (.int 1) (.int v) = some (Cup a v R) := id rfl
theorem mul_small {a b : Int} (h : b.natAbs < 2 ^ 64) : mulOk a b = true := by unfold mulOk; simp [h]
theorem mul_smallL {a b : Int} (h : a.natAbs < 2 ^ 64) : mulOk a b = true := by unfold mulOk; simp [h]
theorem div_small {m : Int} (h0 : 0 < m) (h : m < 1073741824) : divOk m = true := by unfold divOk; simp [h0, h]
theorem ix_at {xs : List D} {r : Int} (h0 : 0 ≤ r) (h : r < (xs.length : Nat)) : ∃ x, xs[r.toNat]? = some x ∧ idx (.lst xs) (.int r) = some x ∧ idx (.tup xs) (.int r) = some x := by
  have hl : r.toNat < xs.length := by omega
  have e : ixAt xs.length r = some r.toNat := by unfold ixAt; rw [if_pos h0, if_pos h]
  refine ⟨xs[r.toNat], List.getElem?_eq_getElem hl, ?_, ?_⟩
  · simp only [idx, atI, e, Option.bind_some, List.getElem?_eq_getElem hl]
  · simp only [idx, atI, e, Option.bind_some, List.getElem?_eq_getElem hl]
def cupF (d m p q r : Int) : Fn := ⟨1, 2, [
    .asg (.nm 1) (.bi .abs [(.idx (.bin .add (.bi .list [(.loc 0)]) (.lst [(.cst (.int 0))])) (.cst (.int 0)))]),
    .ret (.new [(.ite (.cmp .ge (.loc 1) (.bin .pow (.cst (.int 10)) (.cst (.int 18)))) (.bin .fdiv (.loc 1) (.cst (.int d))) (.cst (.int 0))), (.bin .add (.bin .mod (.bi .int [(.bin .add (.bin .mul (.loc 1) (.cst (.int m))) (.cst (.int p)))]) (.cst (.int q))) (.cst (.int r)))])]⟩
def rollF (m p q r s t : Int) : Fn := ⟨2, 4, [
    .ite (.cmp .gt (.idx (.loc 0) (.cst (.int 0))) (.cst (.int 0))) [.asg (.nm 3) (.bin .mod (.bi .int [(.idx (.loc 0) (.cst (.int 0)))]) (.loc 1)), .setR (.loc 0) (.cst (.int 0)) (.bin .fdiv (.idx (.loc 0) (.cst (.int 0))) (.loc 1)), .ret (.loc 3)] [],
    .setR (.loc 0) (.cst (.int 1)) (.bin .mod (.bi .int [(.bin .add (.bin .mul (.idx (.loc 0) (.cst (.int 1))) (.cst (.int m))) (.cst (.int p)))]) (.cst (.int q))),
    .asg (.nm 2) (.bin .mod (.bi .int [(.bin .mul (.idx (.loc 0) (.cst (.int 1))) (.bin .add (.idx (.loc 0) (.cst (.int 1))) (.cst (.int r))))]) (.cst (.int s))),
    .ret (.bin .mod (.bi .int [(.bin .fdiv (.loc 2) (.cst (.int t)))]) (.loc 1))]⟩
def someF : Fn := ⟨2, 2, [
    .ret (.idx (.loc 1) (.call "_law_roll" [(.loc 0), (.bi .len [(.loc 1)])]))]⟩
def fileF (m : Int) : Fn := ⟨2, 4, [
    .asg (.nm 2) (.call "_law_roll" [(.loc 0), (.cst (.int m))]),
    .ret (.bi .tuple [(.comp [3] (.nm 3) .range [(.call "_law_roll" [(.loc 0), (.bin .add (.loc 1) (.cst (.int 1)))])] none (.call "_law_some" [(.loc 0), (.lst [(.loc 2), (.loc 2), (.call "_law_roll" [(.loc 0), (.cst (.int m))])])]))])]⟩
def sameF : Fn := ⟨2, 3, [
    .ite (.bi .isTuple [(.loc 1)]) [.ite (.or_ (.not_ (.bi .isTuple [(.loc 0)])) (.cmp .ne (.bi .len [(.loc 0)]) (.bi .len [(.loc 1)]))) [.ret (.cst (.bl false))] [], .ret (.bi .all [(.comp [2] (.nm 2) .range [(.bi .len [(.loc 1)])] none (.call "_law_same" [(.idx (.loc 0) (.loc 2)), (.idx (.loc 1) (.loc 2))]))])] [],
    .ite (.cmp .is_ (.loc 1) (.cst .non)) [.ret (.cmp .is_ (.loc 0) (.cst .non))] [],
    .ite (.bi .isBool [(.loc 1)]) [.ret (.ite (.loc 1) (.cmp .is_ (.loc 0) (.cst (.bl true))) (.cmp .is_ (.loc 0) (.cst (.bl false))))] [],
    .ite (.bi .isInt [(.loc 1)]) [.ret (.and_ (.bi .isInt [(.loc 0)]) (.and_ (.not_ (.bi .isBool [(.loc 0)])) (.cmp .eq (.bi .int [(.loc 0)]) (.loc 1))))] [],
    .ret (.and_ (.bi .isStr [(.loc 0)]) (.cmp .eq (.bi .str [(.loc 0)]) (.loc 1)))]⟩
theorem W_cup {d m p q r : Int} (hP : P.lookup ("_law_cup" : Str) = some (cupF d m p q r)) (hk : 1 ≤ k) (hd : divOk d = true) (hm : m.natAbs < 2 ^ 64) (hq : 0 < q) {ns : List Int} (h : ns.length ≤ 63) {Q : D → Sto → Prop} (go : ∀ a b, Q (.ref 0) (Cup a b [])) :
    W (callP P k "_law_cup" [.lst (ns.map .int)] []) Q := by
  refine W_call hk hP rfl fun j _ => ?_
  have hx : ∃ c : Int, idx (.lst (ns.map D.int ++ [.int 0])) (.int 0) = some (.int c) := by
    obtain ⟨x, e1, e2, _⟩ := ix_at (xs := ns.map D.int ++ [.int 0]) (r := 0) (by omega) (by rw [List.length_append]; simp)
    rw [e2]
    cases ns with
    | nil => exact ⟨0, e1.symm⟩
    | cons n r => exact ⟨n, e1.symm⟩
  obtain ⟨c, hc⟩ := hx
  have hl : (ns.map D.int).length + 1 ≤ line := by rw [List.length_map]; unfold line; omega
  have hm : ∀ c : Int, mulOk c m = true := fun c => mul_small hm
  have hp : powOk 10 18 = true := by decide +kernel
  generalize hq2 : (if c < 0 then -c else c) = y
  by_cases hg : (10 ^ 18 : Int) ≤ y
  · simp only [cupF, Int.cast_ofNat_Int, evSs_cons, evSs_none, nxt_nx, nxt_ret, retQ_ret, retQ_nx, W_ok, W_bind, bind_ok', lift_some, cup_view, vw_non, vw_int, vw_bl, vw_str, vw_tup, vw_lst, wipeE, evS.eq_1, evS.eq_2, evS.eq_3, evS.eq_4, evS.eq_5, evS.eq_6, evS.eq_7, evS.eq_8, evS.eq_9, evS.eq_10, evS.eq_11, evE.eq_1, evE.eq_2, evE.eq_3, evE.eq_4, evE.eq_5, evE.eq_6, evE.eq_7, evE.eq_8, evE.eq_9, evE.eq_10, evE.eq_11, evE.eq_12, evE.eq_13, evE.eq_14, evE.eq_15, evE.eq_16, evE.eq_17, evE.eq_18, evE.eq_19, evEs, evO, evC, builtin.eq_1, builtin.eq_2, builtin.eq_3, builtin.eq_4, builtin.eq_5, builtin.eq_6, builtin.eq_7, builtin.eq_8, builtin.eq_9, builtin.eq_10, builtin.eq_11, builtin.eq_12, builtin.eq_13, builtin.eq_14, builtin.eq_15, builtin.eq_16, builtin.eq_17, builtin.eq_18, builtin.eq_19, builtin.eq_20, builtin.eq_21, builtin.eq_22, builtin.eq_23, builtin.eq_24, builtin.eq_25, builtin.eq_26, builtin.eq_27, builtin.eq_28, builtin.eq_29, builtin.eq_30, builtin.eq_31, builtin.eq_32, builtin.eq_33, builtin.eq_34, builtin.eq_35, builtin.eq_36, builtin.eq_37, builtin.eq_38, builtin.eq_39, builtin.eq_40, builtin.eq_41, builtin.eq_42, builtin.eq_43, binop.eq_1, binop.eq_2, binop.eq_3, binop.eq_4, binop.eq_5, binop.eq_6, binop.eq_7, binop.eq_8, binop.eq_9, binop.eq_10, binop.eq_11, binop.eq_12, cmpop.eq_1, cmpop.eq_2, cmpop.eq_3, cmpop.eq_4, cmpop.eq_5, cmpop.eq_6, cmpop.eq_7, cmpop.eq_8, cmpop.eq_9, cmpop.eq_10, cmpop.eq_11, cmpop.eq_12, cmpop.eq_13, cmpop.eq_14, cmpop.eq_15, cmpop.eq_16, cmpop.eq_17, cmpop.eq_18, cmpop.eq_19, isScalar, Tg.put.eq_1, Tg.put.eq_2, Tg.puts.eq_1, Tg.puts.eq_2, Nat.zero_le, List.set_cons_zero, List.set_cons_succ, List.getElem?_cons_zero, List.getElem?_cons_succ, List.map_cons, List.map_nil, List.cons_append, List.nil_append, List.replicate_succ, List.replicate_zero, Option.map_some, Option.map_none, Option.bind_some, if_true, if_false, Bool.not_true, Bool.not_false, Nat.sub_self, List.length_cons, List.length_nil, Bool.false_eq_true, reduceCtorEq, and_self, and_true, true_and, decide_true, decide_false, Int.reduceLT, Int.reduceLE, Int.reduceEq, Nat.reduceLeDiff, Nat.reduceAdd, eqOk_ii, eqv_ii, eqOk_ss, eqv_ss, ltOk_ii, lt_ii, l1, l2, l3, l4, Nat.zero_add, eq_self,  Bool.and_self, Bool.and_true, Bool.true_and, List.append_nil, hl, hc, hq, hq2, hp, hm, hd, show ((18 : Int).toNat) = 18 by rfl, hg]
    exact go _ _
  · simp only [cupF, Int.cast_ofNat_Int, evSs_cons, evSs_none, nxt_nx, nxt_ret, retQ_ret, retQ_nx, W_ok, W_bind, bind_ok', lift_some, cup_view, vw_non, vw_int, vw_bl, vw_str, vw_tup, vw_lst, wipeE, evS.eq_1, evS.eq_2, evS.eq_3, evS.eq_4, evS.eq_5, evS.eq_6, evS.eq_7, evS.eq_8, evS.eq_9, evS.eq_10, evS.eq_11, evE.eq_1, evE.eq_2, evE.eq_3, evE.eq_4, evE.eq_5, evE.eq_6, evE.eq_7, evE.eq_8, evE.eq_9, evE.eq_10, evE.eq_11, evE.eq_12, evE.eq_13, evE.eq_14, evE.eq_15, evE.eq_16, evE.eq_17, evE.eq_18, evE.eq_19, evEs, evO, evC, builtin.eq_1, builtin.eq_2, builtin.eq_3, builtin.eq_4, builtin.eq_5, builtin.eq_6, builtin.eq_7, builtin.eq_8, builtin.eq_9, builtin.eq_10, builtin.eq_11, builtin.eq_12, builtin.eq_13, builtin.eq_14, builtin.eq_15, builtin.eq_16, builtin.eq_17, builtin.eq_18, builtin.eq_19, builtin.eq_20, builtin.eq_21, builtin.eq_22, builtin.eq_23, builtin.eq_24, builtin.eq_25, builtin.eq_26, builtin.eq_27, builtin.eq_28, builtin.eq_29, builtin.eq_30, builtin.eq_31, builtin.eq_32, builtin.eq_33, builtin.eq_34, builtin.eq_35, builtin.eq_36, builtin.eq_37, builtin.eq_38, builtin.eq_39, builtin.eq_40, builtin.eq_41, builtin.eq_42, builtin.eq_43, binop.eq_1, binop.eq_2, binop.eq_3, binop.eq_4, binop.eq_5, binop.eq_6, binop.eq_7, binop.eq_8, binop.eq_9, binop.eq_10, binop.eq_11, binop.eq_12, cmpop.eq_1, cmpop.eq_2, cmpop.eq_3, cmpop.eq_4, cmpop.eq_5, cmpop.eq_6, cmpop.eq_7, cmpop.eq_8, cmpop.eq_9, cmpop.eq_10, cmpop.eq_11, cmpop.eq_12, cmpop.eq_13, cmpop.eq_14, cmpop.eq_15, cmpop.eq_16, cmpop.eq_17, cmpop.eq_18, cmpop.eq_19, isScalar, Tg.put.eq_1, Tg.put.eq_2, Tg.puts.eq_1, Tg.puts.eq_2, Nat.zero_le, List.set_cons_zero, List.set_cons_succ, List.getElem?_cons_zero, List.getElem?_cons_succ, List.map_cons, List.map_nil, List.cons_append, List.nil_append, List.replicate_succ, List.replicate_zero, Option.map_some, Option.map_none, Option.bind_some, if_true, if_false, Bool.not_true, Bool.not_false, Nat.sub_self, List.length_cons, List.length_nil, Bool.false_eq_true, reduceCtorEq, and_self, and_true, true_and, decide_true, decide_false, Int.reduceLT, Int.reduceLE, Int.reduceEq, Nat.reduceLeDiff, Nat.reduceAdd, eqOk_ii, eqv_ii, eqOk_ss, eqv_ss, ltOk_ii, lt_ii, l1, l2, l3, l4, Nat.zero_add, eq_self,  Bool.and_self, Bool.and_true, Bool.true_and, List.append_nil, hl, hc, hq, hq2, hp, hm, hd, show ((18 : Int).toNat) = 18 by rfl, hg]
    exact go _ _
theorem W_roll {m p q r s t : Int} (hP : P.lookup ("_law_roll" : Str) = some (rollF m p q r s t)) (hc : (decide (m.natAbs < 2 ^ 64) && decide (0 < q) && decide (q ≤ 2 ^ 63) && decide (0 < s) && divOk t) = true) {n : Int} (hk : 1 ≤ k) (hn : 0 < n) (hd : divOk n = true) {Q : D → Sto → Prop}
    (go : ∀ z a b, 0 ≤ z → z < n → Q (.int z) (Cup a b R)) : W (callP P k "_law_roll" [.ref 0, .int n] (Cup a b R)) Q := by
  simp only [Bool.and_eq_true, decide_eq_true_eq] at hc
  obtain ⟨⟨⟨⟨c1, c2⟩, c3⟩, c4⟩, c5⟩ := hc
  refine W_call hk hP rfl fun j _ => ?_
  by_cases h : 0 < a
  · simp only [rollF, Int.cast_ofNat_Int, evSs_cons, evSs_none, nxt_nx, nxt_ret, retQ_ret, retQ_nx, W_ok, W_bind, bind_ok', lift_some, cup_view, vw_non, vw_int, vw_bl, vw_str, vw_tup, vw_lst, wipeE, evS.eq_1, evS.eq_2, evS.eq_3, evS.eq_4, evS.eq_5, evS.eq_6, evS.eq_7, evS.eq_8, evS.eq_9, evS.eq_10, evS.eq_11, evE.eq_1, evE.eq_2, evE.eq_3, evE.eq_4, evE.eq_5, evE.eq_6, evE.eq_7, evE.eq_8, evE.eq_9, evE.eq_10, evE.eq_11, evE.eq_12, evE.eq_13, evE.eq_14, evE.eq_15, evE.eq_16, evE.eq_17, evE.eq_18, evE.eq_19, evEs, evO, evC, builtin.eq_1, builtin.eq_2, builtin.eq_3, builtin.eq_4, builtin.eq_5, builtin.eq_6, builtin.eq_7, builtin.eq_8, builtin.eq_9, builtin.eq_10, builtin.eq_11, builtin.eq_12, builtin.eq_13, builtin.eq_14, builtin.eq_15, builtin.eq_16, builtin.eq_17, builtin.eq_18, builtin.eq_19, builtin.eq_20, builtin.eq_21, builtin.eq_22, builtin.eq_23, builtin.eq_24, builtin.eq_25, builtin.eq_26, builtin.eq_27, builtin.eq_28, builtin.eq_29, builtin.eq_30, builtin.eq_31, builtin.eq_32, builtin.eq_33, builtin.eq_34, builtin.eq_35, builtin.eq_36, builtin.eq_37, builtin.eq_38, builtin.eq_39, builtin.eq_40, builtin.eq_41, builtin.eq_42, builtin.eq_43, binop.eq_1, binop.eq_2, binop.eq_3, binop.eq_4, binop.eq_5, binop.eq_6, binop.eq_7, binop.eq_8, binop.eq_9, binop.eq_10, binop.eq_11, binop.eq_12, cmpop.eq_1, cmpop.eq_2, cmpop.eq_3, cmpop.eq_4, cmpop.eq_5, cmpop.eq_6, cmpop.eq_7, cmpop.eq_8, cmpop.eq_9, cmpop.eq_10, cmpop.eq_11, cmpop.eq_12, cmpop.eq_13, cmpop.eq_14, cmpop.eq_15, cmpop.eq_16, cmpop.eq_17, cmpop.eq_18, cmpop.eq_19, isScalar, Tg.put.eq_1, Tg.put.eq_2, Tg.puts.eq_1, Tg.puts.eq_2, Nat.zero_le, List.set_cons_zero, List.set_cons_succ, List.getElem?_cons_zero, List.getElem?_cons_succ, List.map_cons, List.map_nil, List.cons_append, List.nil_append, List.replicate_succ, List.replicate_zero, Option.map_some, Option.map_none, Option.bind_some, if_true, if_false, Bool.not_true, Bool.not_false, Nat.sub_self, List.length_cons, List.length_nil, Bool.false_eq_true, reduceCtorEq, and_self, and_true, true_and, decide_true, decide_false, Int.reduceLT, Int.reduceLE, Int.reduceEq, Nat.reduceLeDiff, Nat.reduceAdd, eqOk_ii, eqv_ii, eqOk_ss, eqv_ss, ltOk_ii, lt_ii, l1, l2, l3, l4, Nat.zero_add, eq_self,  Bool.and_self, Bool.and_true, Bool.true_and, List.append_nil, cup_view, ix0, h, hn, hd, set0]
    exact go _ _ _ (Int.emod_nonneg _ (by omega)) (Int.emod_lt_of_pos _ hn)
  · have h1 : ∀ c : Int, mulOk c m = true := fun c => mul_small c1
    generalize hq : (b * m + p) % q = y
    have h2 : mulOk y (y + r) = true := mul_smallL (by have := Int.emod_lt_of_pos (b * m + p) c2; have := Int.emod_nonneg (b * m + p) (show q ≠ 0 by omega); omega)
    simp only [rollF, Int.cast_ofNat_Int, evSs_cons, evSs_none, nxt_nx, nxt_ret, retQ_ret, retQ_nx, W_ok, W_bind, bind_ok', lift_some, cup_view, vw_non, vw_int, vw_bl, vw_str, vw_tup, vw_lst, wipeE, evS.eq_1, evS.eq_2, evS.eq_3, evS.eq_4, evS.eq_5, evS.eq_6, evS.eq_7, evS.eq_8, evS.eq_9, evS.eq_10, evS.eq_11, evE.eq_1, evE.eq_2, evE.eq_3, evE.eq_4, evE.eq_5, evE.eq_6, evE.eq_7, evE.eq_8, evE.eq_9, evE.eq_10, evE.eq_11, evE.eq_12, evE.eq_13, evE.eq_14, evE.eq_15, evE.eq_16, evE.eq_17, evE.eq_18, evE.eq_19, evEs, evO, evC, builtin.eq_1, builtin.eq_2, builtin.eq_3, builtin.eq_4, builtin.eq_5, builtin.eq_6, builtin.eq_7, builtin.eq_8, builtin.eq_9, builtin.eq_10, builtin.eq_11, builtin.eq_12, builtin.eq_13, builtin.eq_14, builtin.eq_15, builtin.eq_16, builtin.eq_17, builtin.eq_18, builtin.eq_19, builtin.eq_20, builtin.eq_21, builtin.eq_22, builtin.eq_23, builtin.eq_24, builtin.eq_25, builtin.eq_26, builtin.eq_27, builtin.eq_28, builtin.eq_29, builtin.eq_30, builtin.eq_31, builtin.eq_32, builtin.eq_33, builtin.eq_34, builtin.eq_35, builtin.eq_36, builtin.eq_37, builtin.eq_38, builtin.eq_39, builtin.eq_40, builtin.eq_41, builtin.eq_42, builtin.eq_43, binop.eq_1, binop.eq_2, binop.eq_3, binop.eq_4, binop.eq_5, binop.eq_6, binop.eq_7, binop.eq_8, binop.eq_9, binop.eq_10, binop.eq_11, binop.eq_12, cmpop.eq_1, cmpop.eq_2, cmpop.eq_3, cmpop.eq_4, cmpop.eq_5, cmpop.eq_6, cmpop.eq_7, cmpop.eq_8, cmpop.eq_9, cmpop.eq_10, cmpop.eq_11, cmpop.eq_12, cmpop.eq_13, cmpop.eq_14, cmpop.eq_15, cmpop.eq_16, cmpop.eq_17, cmpop.eq_18, cmpop.eq_19, isScalar, Tg.put.eq_1, Tg.put.eq_2, Tg.puts.eq_1, Tg.puts.eq_2, Nat.zero_le, List.set_cons_zero, List.set_cons_succ, List.getElem?_cons_zero, List.getElem?_cons_succ, List.map_cons, List.map_nil, List.cons_append, List.nil_append, List.replicate_succ, List.replicate_zero, Option.map_some, Option.map_none, Option.bind_some, if_true, if_false, Bool.not_true, Bool.not_false, Nat.sub_self, List.length_cons, List.length_nil, Bool.false_eq_true, reduceCtorEq, and_self, and_true, true_and, decide_true, decide_false, Int.reduceLT, Int.reduceLE, Int.reduceEq, Nat.reduceLeDiff, Nat.reduceAdd, eqOk_ii, eqv_ii, eqOk_ss, eqv_ss, ltOk_ii, lt_ii, l1, l2, l3, l4, Nat.zero_add, eq_self,  Bool.and_self, Bool.and_true, Bool.true_and, List.append_nil, cup_view, ix0, ix1, h, hn, h1, h2, c2, c4, c5, set1, hq]
    exact go _ _ _ (Int.emod_nonneg _ (by omega)) (Int.emod_lt_of_pos _ hn)
/-- the constants of a law's roll are good -/
def rollOk (P : Prog) : Prop := ∃ m p q r s t : Int, P.lookup ("_law_roll" : Str) = some (rollF m p q r s t) ∧ (decide (m.natAbs < 2 ^ 64) && decide (0 < q) && decide (q ≤ 2 ^ 63) && decide (0 < s) && divOk t) = true
theorem w_roll (hP : rollOk P) {n : Int} (hk : 1 ≤ k) (hn : 0 < n) (hd : n < 1073741824) {Q : D → Sto → Prop}
    (go : ∀ z a b, 0 ≤ z → z < n → Q (.int z) (Cup a b R)) : W (callP P k "_law_roll" [.ref 0, .int n] (Cup a b R)) Q := by
  obtain ⟨m, p, q, r, s, t, h1, h2⟩ := hP
  exact W_roll h1 h2 hk hn (div_small hn hd) go
theorem w_some (hP : rollOk P) (hS : P.lookup ("_law_some" : Str) = some someF) (hk : 2 ≤ k) {xs : List D} (h0 : xs ≠ []) (h : xs.length < 1073741824) {Q : D → Sto → Prop}
    (go : ∀ x a b, x ∈ xs → Q x (Cup a b R)) : W (callP P k "_law_some" [.ref 0, .lst xs] (Cup a b R)) Q := by
  refine W_call (by omega) hS rfl fun j _ => ?_
  have hp : 0 < xs.length := List.length_pos_iff.mpr h0
  simp only [someF, Int.cast_ofNat_Int, evSs_cons, evSs_none, nxt_nx, nxt_ret, retQ_ret, retQ_nx, W_ok, W_bind, bind_ok', lift_some, cup_view, vw_non, vw_int, vw_bl, vw_str, vw_tup, vw_lst, wipeE, evS.eq_1, evS.eq_2, evS.eq_3, evS.eq_4, evS.eq_5, evS.eq_6, evS.eq_7, evS.eq_8, evS.eq_9, evS.eq_10, evS.eq_11, evE.eq_1, evE.eq_2, evE.eq_3, evE.eq_4, evE.eq_5, evE.eq_6, evE.eq_7, evE.eq_8, evE.eq_9, evE.eq_10, evE.eq_11, evE.eq_12, evE.eq_13, evE.eq_14, evE.eq_15, evE.eq_16, evE.eq_17, evE.eq_18, evE.eq_19, evEs, evO, evC, builtin.eq_1, builtin.eq_2, builtin.eq_3, builtin.eq_4, builtin.eq_5, builtin.eq_6, builtin.eq_7, builtin.eq_8, builtin.eq_9, builtin.eq_10, builtin.eq_11, builtin.eq_12, builtin.eq_13, builtin.eq_14, builtin.eq_15, builtin.eq_16, builtin.eq_17, builtin.eq_18, builtin.eq_19, builtin.eq_20, builtin.eq_21, builtin.eq_22, builtin.eq_23, builtin.eq_24, builtin.eq_25, builtin.eq_26, builtin.eq_27, builtin.eq_28, builtin.eq_29, builtin.eq_30, builtin.eq_31, builtin.eq_32, builtin.eq_33, builtin.eq_34, builtin.eq_35, builtin.eq_36, builtin.eq_37, builtin.eq_38, builtin.eq_39, builtin.eq_40, builtin.eq_41, builtin.eq_42, builtin.eq_43, binop.eq_1, binop.eq_2, binop.eq_3, binop.eq_4, binop.eq_5, binop.eq_6, binop.eq_7, binop.eq_8, binop.eq_9, binop.eq_10, binop.eq_11, binop.eq_12, cmpop.eq_1, cmpop.eq_2, cmpop.eq_3, cmpop.eq_4, cmpop.eq_5, cmpop.eq_6, cmpop.eq_7, cmpop.eq_8, cmpop.eq_9, cmpop.eq_10, cmpop.eq_11, cmpop.eq_12, cmpop.eq_13, cmpop.eq_14, cmpop.eq_15, cmpop.eq_16, cmpop.eq_17, cmpop.eq_18, cmpop.eq_19, isScalar, Tg.put.eq_1, Tg.put.eq_2, Tg.puts.eq_1, Tg.puts.eq_2, Nat.zero_le, List.set_cons_zero, List.set_cons_succ, List.getElem?_cons_zero, List.getElem?_cons_succ, List.map_cons, List.map_nil, List.cons_append, List.nil_append, List.replicate_succ, List.replicate_zero, Option.map_some, Option.map_none, Option.bind_some, if_true, if_false, Bool.not_true, Bool.not_false, Nat.sub_self, List.length_cons, List.length_nil, Bool.false_eq_true, reduceCtorEq, and_self, and_true, true_and, decide_true, decide_false, Int.reduceLT, Int.reduceLE, Int.reduceEq, Nat.reduceLeDiff, Nat.reduceAdd, eqOk_ii, eqv_ii, eqOk_ss, eqv_ss, ltOk_ii, lt_ii, l1, l2, l3, l4, Nat.zero_add, eq_self,  Bool.and_self, Bool.and_true, Bool.true_and, List.append_nil]
  refine w_roll hP (by omega) (by omega) (by omega) fun z a b z0 z1 => ?_
  obtain ⟨x, e1, e2, _⟩ := ix_at z0 z1
  simp only [Int.cast_ofNat_Int, evSs_cons, evSs_none, nxt_nx, nxt_ret, retQ_ret, retQ_nx, W_ok, W_bind, bind_ok', lift_some, cup_view, vw_non, vw_int, vw_bl, vw_str, vw_tup, vw_lst, wipeE, evS.eq_1, evS.eq_2, evS.eq_3, evS.eq_4, evS.eq_5, evS.eq_6, evS.eq_7, evS.eq_8, evS.eq_9, evS.eq_10, evS.eq_11, evE.eq_1, evE.eq_2, evE.eq_3, evE.eq_4, evE.eq_5, evE.eq_6, evE.eq_7, evE.eq_8, evE.eq_9, evE.eq_10, evE.eq_11, evE.eq_12, evE.eq_13, evE.eq_14, evE.eq_15, evE.eq_16, evE.eq_17, evE.eq_18, evE.eq_19, evEs, evO, evC, builtin.eq_1, builtin.eq_2, builtin.eq_3, builtin.eq_4, builtin.eq_5, builtin.eq_6, builtin.eq_7, builtin.eq_8, builtin.eq_9, builtin.eq_10, builtin.eq_11, builtin.eq_12, builtin.eq_13, builtin.eq_14, builtin.eq_15, builtin.eq_16, builtin.eq_17, builtin.eq_18, builtin.eq_19, builtin.eq_20, builtin.eq_21, builtin.eq_22, builtin.eq_23, builtin.eq_24, builtin.eq_25, builtin.eq_26, builtin.eq_27, builtin.eq_28, builtin.eq_29, builtin.eq_30, builtin.eq_31, builtin.eq_32, builtin.eq_33, builtin.eq_34, builtin.eq_35, builtin.eq_36, builtin.eq_37, builtin.eq_38, builtin.eq_39, builtin.eq_40, builtin.eq_41, builtin.eq_42, builtin.eq_43, binop.eq_1, binop.eq_2, binop.eq_3, binop.eq_4, binop.eq_5, binop.eq_6, binop.eq_7, binop.eq_8, binop.eq_9, binop.eq_10, binop.eq_11, binop.eq_12, cmpop.eq_1, cmpop.eq_2, cmpop.eq_3, cmpop.eq_4, cmpop.eq_5, cmpop.eq_6, cmpop.eq_7, cmpop.eq_8, cmpop.eq_9, cmpop.eq_10, cmpop.eq_11, cmpop.eq_12, cmpop.eq_13, cmpop.eq_14, cmpop.eq_15, cmpop.eq_16, cmpop.eq_17, cmpop.eq_18, cmpop.eq_19, isScalar, Tg.put.eq_1, Tg.put.eq_2, Tg.puts.eq_1, Tg.puts.eq_2, Nat.zero_le, List.set_cons_zero, List.set_cons_succ, List.getElem?_cons_zero, List.getElem?_cons_succ, List.map_cons, List.map_nil, List.cons_append, List.nil_append, List.replicate_succ, List.replicate_zero, Option.map_some, Option.map_none, Option.bind_some, if_true, if_false, Bool.not_true, Bool.not_false, Nat.sub_self, List.length_cons, List.length_nil, Bool.false_eq_true, reduceCtorEq, and_self, and_true, true_and, decide_true, decide_false, Int.reduceLT, Int.reduceLE, Int.reduceEq, Nat.reduceLeDiff, Nat.reduceAdd, eqOk_ii, eqv_ii, eqOk_ss, eqv_ss, ltOk_ii, lt_ii, l1, l2, l3, l4, Nat.zero_add, eq_self,  Bool.and_self, Bool.and_true, Bool.true_and, List.append_nil, e2]
  exact go _ _ _ (List.mem_of_getElem? e1)
/-- the same from a tuple -/
theorem w_someT (hP : rollOk P) (hS : P.lookup ("_law_some" : Str) = some someF) (hk : 2 ≤ k) {xs : List D} (h0 : xs ≠ []) (h : xs.length < 1073741824) {Q : D → Sto → Prop}
    (go : ∀ x a b, x ∈ xs → Q x (Cup a b R)) : W (callP P k "_law_some" [.ref 0, .tup xs] (Cup a b R)) Q := by
  refine W_call (by omega) hS rfl fun j _ => ?_
  have hp : 0 < xs.length := List.length_pos_iff.mpr h0
  simp only [someF, Int.cast_ofNat_Int, evSs_cons, evSs_none, nxt_nx, nxt_ret, retQ_ret, retQ_nx, W_ok, W_bind, bind_ok', lift_some, cup_view, vw_non, vw_int, vw_bl, vw_str, vw_tup, vw_lst, wipeE, evS.eq_1, evS.eq_2, evS.eq_3, evS.eq_4, evS.eq_5, evS.eq_6, evS.eq_7, evS.eq_8, evS.eq_9, evS.eq_10, evS.eq_11, evE.eq_1, evE.eq_2, evE.eq_3, evE.eq_4, evE.eq_5, evE.eq_6, evE.eq_7, evE.eq_8, evE.eq_9, evE.eq_10, evE.eq_11, evE.eq_12, evE.eq_13, evE.eq_14, evE.eq_15, evE.eq_16, evE.eq_17, evE.eq_18, evE.eq_19, evEs, evO, evC, builtin.eq_1, builtin.eq_2, builtin.eq_3, builtin.eq_4, builtin.eq_5, builtin.eq_6, builtin.eq_7, builtin.eq_8, builtin.eq_9, builtin.eq_10, builtin.eq_11, builtin.eq_12, builtin.eq_13, builtin.eq_14, builtin.eq_15, builtin.eq_16, builtin.eq_17, builtin.eq_18, builtin.eq_19, builtin.eq_20, builtin.eq_21, builtin.eq_22, builtin.eq_23, builtin.eq_24, builtin.eq_25, builtin.eq_26, builtin.eq_27, builtin.eq_28, builtin.eq_29, builtin.eq_30, builtin.eq_31, builtin.eq_32, builtin.eq_33, builtin.eq_34, builtin.eq_35, builtin.eq_36, builtin.eq_37, builtin.eq_38, builtin.eq_39, builtin.eq_40, builtin.eq_41, builtin.eq_42, builtin.eq_43, binop.eq_1, binop.eq_2, binop.eq_3, binop.eq_4, binop.eq_5, binop.eq_6, binop.eq_7, binop.eq_8, binop.eq_9, binop.eq_10, binop.eq_11, binop.eq_12, cmpop.eq_1, cmpop.eq_2, cmpop.eq_3, cmpop.eq_4, cmpop.eq_5, cmpop.eq_6, cmpop.eq_7, cmpop.eq_8, cmpop.eq_9, cmpop.eq_10, cmpop.eq_11, cmpop.eq_12, cmpop.eq_13, cmpop.eq_14, cmpop.eq_15, cmpop.eq_16, cmpop.eq_17, cmpop.eq_18, cmpop.eq_19, isScalar, Tg.put.eq_1, Tg.put.eq_2, Tg.puts.eq_1, Tg.puts.eq_2, Nat.zero_le, List.set_cons_zero, List.set_cons_succ, List.getElem?_cons_zero, List.getElem?_cons_succ, List.map_cons, List.map_nil, List.cons_append, List.nil_append, List.replicate_succ, List.replicate_zero, Option.map_some, Option.map_none, Option.bind_some, if_true, if_false, Bool.not_true, Bool.not_false, Nat.sub_self, List.length_cons, List.length_nil, Bool.false_eq_true, reduceCtorEq, and_self, and_true, true_and, decide_true, decide_false, Int.reduceLT, Int.reduceLE, Int.reduceEq, Nat.reduceLeDiff, Nat.reduceAdd, eqOk_ii, eqv_ii, eqOk_ss, eqv_ss, ltOk_ii, lt_ii, l1, l2, l3, l4, Nat.zero_add, eq_self,  Bool.and_self, Bool.and_true, Bool.true_and, List.append_nil]
  refine w_roll hP (by omega) (by omega) (by omega) fun z a b z0 z1 => ?_
  obtain ⟨x, e1, _, e2⟩ := ix_at z0 z1
  simp only [Int.cast_ofNat_Int, evSs_cons, evSs_none, nxt_nx, nxt_ret, retQ_ret, retQ_nx, W_ok, W_bind, bind_ok', lift_some, cup_view, vw_non, vw_int, vw_bl, vw_str, vw_tup, vw_lst, wipeE, evS.eq_1, evS.eq_2, evS.eq_3, evS.eq_4, evS.eq_5, evS.eq_6, evS.eq_7, evS.eq_8, evS.eq_9, evS.eq_10, evS.eq_11, evE.eq_1, evE.eq_2, evE.eq_3, evE.eq_4, evE.eq_5, evE.eq_6, evE.eq_7, evE.eq_8, evE.eq_9, evE.eq_10, evE.eq_11, evE.eq_12, evE.eq_13, evE.eq_14, evE.eq_15, evE.eq_16, evE.eq_17, evE.eq_18, evE.eq_19, evEs, evO, evC, builtin.eq_1, builtin.eq_2, builtin.eq_3, builtin.eq_4, builtin.eq_5, builtin.eq_6, builtin.eq_7, builtin.eq_8, builtin.eq_9, builtin.eq_10, builtin.eq_11, builtin.eq_12, builtin.eq_13, builtin.eq_14, builtin.eq_15, builtin.eq_16, builtin.eq_17, builtin.eq_18, builtin.eq_19, builtin.eq_20, builtin.eq_21, builtin.eq_22, builtin.eq_23, builtin.eq_24, builtin.eq_25, builtin.eq_26, builtin.eq_27, builtin.eq_28, builtin.eq_29, builtin.eq_30, builtin.eq_31, builtin.eq_32, builtin.eq_33, builtin.eq_34, builtin.eq_35, builtin.eq_36, builtin.eq_37, builtin.eq_38, builtin.eq_39, builtin.eq_40, builtin.eq_41, builtin.eq_42, builtin.eq_43, binop.eq_1, binop.eq_2, binop.eq_3, binop.eq_4, binop.eq_5, binop.eq_6, binop.eq_7, binop.eq_8, binop.eq_9, binop.eq_10, binop.eq_11, binop.eq_12, cmpop.eq_1, cmpop.eq_2, cmpop.eq_3, cmpop.eq_4, cmpop.eq_5, cmpop.eq_6, cmpop.eq_7, cmpop.eq_8, cmpop.eq_9, cmpop.eq_10, cmpop.eq_11, cmpop.eq_12, cmpop.eq_13, cmpop.eq_14, cmpop.eq_15, cmpop.eq_16, cmpop.eq_17, cmpop.eq_18, cmpop.eq_19, isScalar, Tg.put.eq_1, Tg.put.eq_2, Tg.puts.eq_1, Tg.puts.eq_2, Nat.zero_le, List.set_cons_zero, List.set_cons_succ, List.getElem?_cons_zero, List.getElem?_cons_succ, List.map_cons, List.map_nil, List.cons_append, List.nil_append, List.replicate_succ, List.replicate_zero, Option.map_some, Option.map_none, Option.bind_some, if_true, if_false, Bool.not_true, Bool.not_false, Nat.sub_self, List.length_cons, List.length_nil, Bool.false_eq_true, reduceCtorEq, and_self, and_true, true_and, decide_true, decide_false, Int.reduceLT, Int.reduceLE, Int.reduceEq, Nat.reduceLeDiff, Nat.reduceAdd, eqOk_ii, eqv_ii, eqOk_ss, eqv_ss, ltOk_ii, lt_ii, l1, l2, l3, l4, Nat.zero_add, eq_self,  Bool.and_self, Bool.and_true, Bool.true_and, List.append_nil, e2]
  exact go _ _ _ (List.mem_of_getElem? e1)
theorem walk_rng {S : Sto} {j : Int} (h0 : 0 ≤ j) (h : j ≤ 16777216) : walk S .range [.int j] = some ((List.range j.toNat).map fun (i : Nat) => D.int (i : Int)) := by
  have e : intOk j = true := by unfold intOk; simp; omega
  have e2 : rangeD 0 j = (List.range j.toNat).map fun (i : Nat) => D.int (i : Int) := by
    unfold rangeD
    rw [Int.sub_zero]
    congr 1
    funext i
    rw [Int.zero_add]
  simp only [walk, rangeOf, e, if_true, Option.bind_some, e2]
  rw [if_pos (by simp [line]; omega)]
theorem walk_lst {S : Sto} {xs : List D} : walk S .ex [.lst xs] = some xs := rfl
theorem walk_tup {S : Sto} {xs : List D} : walk S .ex [.tup xs] = some xs := rfl
/-- octets -/
def Oct (os : List Int) : Prop := ∀ o ∈ os, 0 ≤ o ∧ o ≤ 255
theorem w_file (hP : rollOk P) (hS : P.lookup ("_law_some" : Str) = some someF) (hF : P.lookup ("_law_file" : Str) = some (fileF 256)) (hk : 3 ≤ k) {m : Int} (h0 : 0 ≤ m) (h : m < 1000000) {Q : D → Sto → Prop}
    (go : ∀ (os : List Int) a b, Oct os → (os.length : Nat) ≤ m → Q (.tup (os.map .int)) (Cup a b R)) : W (callP P k "_law_file" [.ref 0, .int m] (Cup a b R)) Q := by
  refine W_call (by omega) hF rfl fun j _ => ?_
  simp only [fileF, Int.cast_ofNat_Int, evSs_cons, evSs_none, nxt_nx, nxt_ret, retQ_ret, retQ_nx, W_ok, W_bind, bind_ok', lift_some, cup_view, vw_non, vw_int, vw_bl, vw_str, vw_tup, vw_lst, wipeE, evS.eq_1, evS.eq_2, evS.eq_3, evS.eq_4, evS.eq_5, evS.eq_6, evS.eq_7, evS.eq_8, evS.eq_9, evS.eq_10, evS.eq_11, evE.eq_1, evE.eq_2, evE.eq_3, evE.eq_4, evE.eq_5, evE.eq_6, evE.eq_7, evE.eq_8, evE.eq_9, evE.eq_10, evE.eq_11, evE.eq_12, evE.eq_13, evE.eq_14, evE.eq_15, evE.eq_16, evE.eq_17, evE.eq_18, evE.eq_19, evEs, evO, evC, builtin.eq_1, builtin.eq_2, builtin.eq_3, builtin.eq_4, builtin.eq_5, builtin.eq_6, builtin.eq_7, builtin.eq_8, builtin.eq_9, builtin.eq_10, builtin.eq_11, builtin.eq_12, builtin.eq_13, builtin.eq_14, builtin.eq_15, builtin.eq_16, builtin.eq_17, builtin.eq_18, builtin.eq_19, builtin.eq_20, builtin.eq_21, builtin.eq_22, builtin.eq_23, builtin.eq_24, builtin.eq_25, builtin.eq_26, builtin.eq_27, builtin.eq_28, builtin.eq_29, builtin.eq_30, builtin.eq_31, builtin.eq_32, builtin.eq_33, builtin.eq_34, builtin.eq_35, builtin.eq_36, builtin.eq_37, builtin.eq_38, builtin.eq_39, builtin.eq_40, builtin.eq_41, builtin.eq_42, builtin.eq_43, binop.eq_1, binop.eq_2, binop.eq_3, binop.eq_4, binop.eq_5, binop.eq_6, binop.eq_7, binop.eq_8, binop.eq_9, binop.eq_10, binop.eq_11, binop.eq_12, cmpop.eq_1, cmpop.eq_2, cmpop.eq_3, cmpop.eq_4, cmpop.eq_5, cmpop.eq_6, cmpop.eq_7, cmpop.eq_8, cmpop.eq_9, cmpop.eq_10, cmpop.eq_11, cmpop.eq_12, cmpop.eq_13, cmpop.eq_14, cmpop.eq_15, cmpop.eq_16, cmpop.eq_17, cmpop.eq_18, cmpop.eq_19, isScalar, Tg.put.eq_1, Tg.put.eq_2, Tg.puts.eq_1, Tg.puts.eq_2, Nat.zero_le, List.set_cons_zero, List.set_cons_succ, List.getElem?_cons_zero, List.getElem?_cons_succ, List.map_cons, List.map_nil, List.cons_append, List.nil_append, List.replicate_succ, List.replicate_zero, Option.map_some, Option.map_none, Option.bind_some, if_true, if_false, Bool.not_true, Bool.not_false, Nat.sub_self, List.length_cons, List.length_nil, Bool.false_eq_true, reduceCtorEq, and_self, and_true, true_and, decide_true, decide_false, Int.reduceLT, Int.reduceLE, Int.reduceEq, Nat.reduceLeDiff, Nat.reduceAdd, eqOk_ii, eqv_ii, eqOk_ss, eqv_ss, ltOk_ii, lt_ii, l1, l2, l3, l4, Nat.zero_add, eq_self,  Bool.and_self, Bool.and_true, Bool.true_and, List.append_nil]
  refine w_roll hP (by omega) (by omega) (by omega) fun base a1 b1 z0 z1 => ?_
  refine W_comp (fun i : Nat => D.int (i : Int)) ?_
  (try simp only [Int.cast_ofNat_Int, evSs_cons, evSs_none, nxt_nx, nxt_ret, retQ_ret, retQ_nx, W_ok, W_bind, bind_ok', lift_some, cup_view, vw_non, vw_int, vw_bl, vw_str, vw_tup, vw_lst, wipeE, evS.eq_1, evS.eq_2, evS.eq_3, evS.eq_4, evS.eq_5, evS.eq_6, evS.eq_7, evS.eq_8, evS.eq_9, evS.eq_10, evS.eq_11, evE.eq_1, evE.eq_2, evE.eq_3, evE.eq_4, evE.eq_5, evE.eq_6, evE.eq_7, evE.eq_8, evE.eq_9, evE.eq_10, evE.eq_11, evE.eq_12, evE.eq_13, evE.eq_14, evE.eq_15, evE.eq_16, evE.eq_17, evE.eq_18, evE.eq_19, evEs, evO, evC, builtin.eq_1, builtin.eq_2, builtin.eq_3, builtin.eq_4, builtin.eq_5, builtin.eq_6, builtin.eq_7, builtin.eq_8, builtin.eq_9, builtin.eq_10, builtin.eq_11, builtin.eq_12, builtin.eq_13, builtin.eq_14, builtin.eq_15, builtin.eq_16, builtin.eq_17, builtin.eq_18, builtin.eq_19, builtin.eq_20, builtin.eq_21, builtin.eq_22, builtin.eq_23, builtin.eq_24, builtin.eq_25, builtin.eq_26, builtin.eq_27, builtin.eq_28, builtin.eq_29, builtin.eq_30, builtin.eq_31, builtin.eq_32, builtin.eq_33, builtin.eq_34, builtin.eq_35, builtin.eq_36, builtin.eq_37, builtin.eq_38, builtin.eq_39, builtin.eq_40, builtin.eq_41, builtin.eq_42, builtin.eq_43, binop.eq_1, binop.eq_2, binop.eq_3, binop.eq_4, binop.eq_5, binop.eq_6, binop.eq_7, binop.eq_8, binop.eq_9, binop.eq_10, binop.eq_11, binop.eq_12, cmpop.eq_1, cmpop.eq_2, cmpop.eq_3, cmpop.eq_4, cmpop.eq_5, cmpop.eq_6, cmpop.eq_7, cmpop.eq_8, cmpop.eq_9, cmpop.eq_10, cmpop.eq_11, cmpop.eq_12, cmpop.eq_13, cmpop.eq_14, cmpop.eq_15, cmpop.eq_16, cmpop.eq_17, cmpop.eq_18, cmpop.eq_19, isScalar, Tg.put.eq_1, Tg.put.eq_2, Tg.puts.eq_1, Tg.puts.eq_2, Nat.zero_le, List.set_cons_zero, List.set_cons_succ, List.getElem?_cons_zero, List.getElem?_cons_succ, List.map_cons, List.map_nil, List.cons_append, List.nil_append, List.replicate_succ, List.replicate_zero, Option.map_some, Option.map_none, Option.bind_some, if_true, if_false, Bool.not_true, Bool.not_false, Nat.sub_self, List.length_cons, List.length_nil, Bool.false_eq_true, reduceCtorEq, and_self, and_true, true_and, decide_true, decide_false, Int.reduceLT, Int.reduceLE, Int.reduceEq, Nat.reduceLeDiff, Nat.reduceAdd, eqOk_ii, eqv_ii, eqOk_ss, eqv_ss, ltOk_ii, lt_ii, l1, l2, l3, l4, Nat.zero_add, eq_self,  Bool.and_self, Bool.and_true, Bool.true_and, List.append_nil])
  refine w_roll hP (by omega) (by omega) (by omega) fun n a2 b2 n0 n1 => ?_
  refine ⟨List.range n.toNat, fun pre acc S => ∃ (os : List Int) (a b : Int), acc = os.map .int ∧ os.length = pre.length ∧ Oct os ∧ S = Cup a b R, walk_rng n0 (by omega), rfl, (by simp [line]; omega), ⟨[], a2, b2, rfl, rfl, (fun o h => by simp at h), rfl⟩, (fun pre i suf acc S e h => ?_), fun acc S h => ?_⟩
  · obtain ⟨os, a, b, rfl, hl, ho, rfl⟩ := h
    simp only [bodyC, Int.cast_ofNat_Int, evSs_cons, evSs_none, nxt_nx, nxt_ret, retQ_ret, retQ_nx, W_ok, W_bind, bind_ok', lift_some, cup_view, vw_non, vw_int, vw_bl, vw_str, vw_tup, vw_lst, wipeE, evS.eq_1, evS.eq_2, evS.eq_3, evS.eq_4, evS.eq_5, evS.eq_6, evS.eq_7, evS.eq_8, evS.eq_9, evS.eq_10, evS.eq_11, evE.eq_1, evE.eq_2, evE.eq_3, evE.eq_4, evE.eq_5, evE.eq_6, evE.eq_7, evE.eq_8, evE.eq_9, evE.eq_10, evE.eq_11, evE.eq_12, evE.eq_13, evE.eq_14, evE.eq_15, evE.eq_16, evE.eq_17, evE.eq_18, evE.eq_19, evEs, evO, evC, builtin.eq_1, builtin.eq_2, builtin.eq_3, builtin.eq_4, builtin.eq_5, builtin.eq_6, builtin.eq_7, builtin.eq_8, builtin.eq_9, builtin.eq_10, builtin.eq_11, builtin.eq_12, builtin.eq_13, builtin.eq_14, builtin.eq_15, builtin.eq_16, builtin.eq_17, builtin.eq_18, builtin.eq_19, builtin.eq_20, builtin.eq_21, builtin.eq_22, builtin.eq_23, builtin.eq_24, builtin.eq_25, builtin.eq_26, builtin.eq_27, builtin.eq_28, builtin.eq_29, builtin.eq_30, builtin.eq_31, builtin.eq_32, builtin.eq_33, builtin.eq_34, builtin.eq_35, builtin.eq_36, builtin.eq_37, builtin.eq_38, builtin.eq_39, builtin.eq_40, builtin.eq_41, builtin.eq_42, builtin.eq_43, binop.eq_1, binop.eq_2, binop.eq_3, binop.eq_4, binop.eq_5, binop.eq_6, binop.eq_7, binop.eq_8, binop.eq_9, binop.eq_10, binop.eq_11, binop.eq_12, cmpop.eq_1, cmpop.eq_2, cmpop.eq_3, cmpop.eq_4, cmpop.eq_5, cmpop.eq_6, cmpop.eq_7, cmpop.eq_8, cmpop.eq_9, cmpop.eq_10, cmpop.eq_11, cmpop.eq_12, cmpop.eq_13, cmpop.eq_14, cmpop.eq_15, cmpop.eq_16, cmpop.eq_17, cmpop.eq_18, cmpop.eq_19, isScalar, Tg.put.eq_1, Tg.put.eq_2, Tg.puts.eq_1, Tg.puts.eq_2, Nat.zero_le, List.set_cons_zero, List.set_cons_succ, List.getElem?_cons_zero, List.getElem?_cons_succ, List.map_cons, List.map_nil, List.cons_append, List.nil_append, List.replicate_succ, List.replicate_zero, Option.map_some, Option.map_none, Option.bind_some, if_true, if_false, Bool.not_true, Bool.not_false, Nat.sub_self, List.length_cons, List.length_nil, Bool.false_eq_true, reduceCtorEq, and_self, and_true, true_and, decide_true, decide_false, Int.reduceLT, Int.reduceLE, Int.reduceEq, Nat.reduceLeDiff, Nat.reduceAdd, eqOk_ii, eqv_ii, eqOk_ss, eqv_ss, ltOk_ii, lt_ii, l1, l2, l3, l4, Nat.zero_add, eq_self,  Bool.and_self, Bool.and_true, Bool.true_and, List.append_nil]
    refine w_roll hP (by omega) (by omega) (by omega) fun c a b c0 c1 => ?_
    (try simp only [Int.cast_ofNat_Int, evSs_cons, evSs_none, nxt_nx, nxt_ret, retQ_ret, retQ_nx, W_ok, W_bind, bind_ok', lift_some, cup_view, vw_non, vw_int, vw_bl, vw_str, vw_tup, vw_lst, wipeE, evS.eq_1, evS.eq_2, evS.eq_3, evS.eq_4, evS.eq_5, evS.eq_6, evS.eq_7, evS.eq_8, evS.eq_9, evS.eq_10, evS.eq_11, evE.eq_1, evE.eq_2, evE.eq_3, evE.eq_4, evE.eq_5, evE.eq_6, evE.eq_7, evE.eq_8, evE.eq_9, evE.eq_10, evE.eq_11, evE.eq_12, evE.eq_13, evE.eq_14, evE.eq_15, evE.eq_16, evE.eq_17, evE.eq_18, evE.eq_19, evEs, evO, evC, builtin.eq_1, builtin.eq_2, builtin.eq_3, builtin.eq_4, builtin.eq_5, builtin.eq_6, builtin.eq_7, builtin.eq_8, builtin.eq_9, builtin.eq_10, builtin.eq_11, builtin.eq_12, builtin.eq_13, builtin.eq_14, builtin.eq_15, builtin.eq_16, builtin.eq_17, builtin.eq_18, builtin.eq_19, builtin.eq_20, builtin.eq_21, builtin.eq_22, builtin.eq_23, builtin.eq_24, builtin.eq_25, builtin.eq_26, builtin.eq_27, builtin.eq_28, builtin.eq_29, builtin.eq_30, builtin.eq_31, builtin.eq_32, builtin.eq_33, builtin.eq_34, builtin.eq_35, builtin.eq_36, builtin.eq_37, builtin.eq_38, builtin.eq_39, builtin.eq_40, builtin.eq_41, builtin.eq_42, builtin.eq_43, binop.eq_1, binop.eq_2, binop.eq_3, binop.eq_4, binop.eq_5, binop.eq_6, binop.eq_7, binop.eq_8, binop.eq_9, binop.eq_10, binop.eq_11, binop.eq_12, cmpop.eq_1, cmpop.eq_2, cmpop.eq_3, cmpop.eq_4, cmpop.eq_5, cmpop.eq_6, cmpop.eq_7, cmpop.eq_8, cmpop.eq_9, cmpop.eq_10, cmpop.eq_11, cmpop.eq_12, cmpop.eq_13, cmpop.eq_14, cmpop.eq_15, cmpop.eq_16, cmpop.eq_17, cmpop.eq_18, cmpop.eq_19, isScalar, Tg.put.eq_1, Tg.put.eq_2, Tg.puts.eq_1, Tg.puts.eq_2, Nat.zero_le, List.set_cons_zero, List.set_cons_succ, List.getElem?_cons_zero, List.getElem?_cons_succ, List.map_cons, List.map_nil, List.cons_append, List.nil_append, List.replicate_succ, List.replicate_zero, Option.map_some, Option.map_none, Option.bind_some, if_true, if_false, Bool.not_true, Bool.not_false, Nat.sub_self, List.length_cons, List.length_nil, Bool.false_eq_true, reduceCtorEq, and_self, and_true, true_and, decide_true, decide_false, Int.reduceLT, Int.reduceLE, Int.reduceEq, Nat.reduceLeDiff, Nat.reduceAdd, eqOk_ii, eqv_ii, eqOk_ss, eqv_ss, ltOk_ii, lt_ii, l1, l2, l3, l4, Nat.zero_add, eq_self,  Bool.and_self, Bool.and_true, Bool.true_and, List.append_nil])
    refine w_some hP hS (by omega) (by simp) (by simp) fun x a b hx => ?_
    have hy : ∃ o : Int, x = .int o ∧ 0 ≤ o ∧ o ≤ 255 := by
      simp only [List.mem_cons, List.not_mem_nil, or_false] at hx
      rcases hx with rfl | rfl | rfl
      · exact ⟨base, rfl, z0, by omega⟩
      · exact ⟨base, rfl, z0, by omega⟩
      · exact ⟨c, rfl, c0, by omega⟩
    obtain ⟨o, rfl, o1, o2⟩ := hy
    (try simp only [Int.cast_ofNat_Int, evSs_cons, evSs_none, nxt_nx, nxt_ret, retQ_ret, retQ_nx, W_ok, W_bind, bind_ok', lift_some, cup_view, vw_non, vw_int, vw_bl, vw_str, vw_tup, vw_lst, wipeE, evS.eq_1, evS.eq_2, evS.eq_3, evS.eq_4, evS.eq_5, evS.eq_6, evS.eq_7, evS.eq_8, evS.eq_9, evS.eq_10, evS.eq_11, evE.eq_1, evE.eq_2, evE.eq_3, evE.eq_4, evE.eq_5, evE.eq_6, evE.eq_7, evE.eq_8, evE.eq_9, evE.eq_10, evE.eq_11, evE.eq_12, evE.eq_13, evE.eq_14, evE.eq_15, evE.eq_16, evE.eq_17, evE.eq_18, evE.eq_19, evEs, evO, evC, builtin.eq_1, builtin.eq_2, builtin.eq_3, builtin.eq_4, builtin.eq_5, builtin.eq_6, builtin.eq_7, builtin.eq_8, builtin.eq_9, builtin.eq_10, builtin.eq_11, builtin.eq_12, builtin.eq_13, builtin.eq_14, builtin.eq_15, builtin.eq_16, builtin.eq_17, builtin.eq_18, builtin.eq_19, builtin.eq_20, builtin.eq_21, builtin.eq_22, builtin.eq_23, builtin.eq_24, builtin.eq_25, builtin.eq_26, builtin.eq_27, builtin.eq_28, builtin.eq_29, builtin.eq_30, builtin.eq_31, builtin.eq_32, builtin.eq_33, builtin.eq_34, builtin.eq_35, builtin.eq_36, builtin.eq_37, builtin.eq_38, builtin.eq_39, builtin.eq_40, builtin.eq_41, builtin.eq_42, builtin.eq_43, binop.eq_1, binop.eq_2, binop.eq_3, binop.eq_4, binop.eq_5, binop.eq_6, binop.eq_7, binop.eq_8, binop.eq_9, binop.eq_10, binop.eq_11, binop.eq_12, cmpop.eq_1, cmpop.eq_2, cmpop.eq_3, cmpop.eq_4, cmpop.eq_5, cmpop.eq_6, cmpop.eq_7, cmpop.eq_8, cmpop.eq_9, cmpop.eq_10, cmpop.eq_11, cmpop.eq_12, cmpop.eq_13, cmpop.eq_14, cmpop.eq_15, cmpop.eq_16, cmpop.eq_17, cmpop.eq_18, cmpop.eq_19, isScalar, Tg.put.eq_1, Tg.put.eq_2, Tg.puts.eq_1, Tg.puts.eq_2, Nat.zero_le, List.set_cons_zero, List.set_cons_succ, List.getElem?_cons_zero, List.getElem?_cons_succ, List.map_cons, List.map_nil, List.cons_append, List.nil_append, List.replicate_succ, List.replicate_zero, Option.map_some, Option.map_none, Option.bind_some, if_true, if_false, Bool.not_true, Bool.not_false, Nat.sub_self, List.length_cons, List.length_nil, Bool.false_eq_true, reduceCtorEq, and_self, and_true, true_and, decide_true, decide_false, Int.reduceLT, Int.reduceLE, Int.reduceEq, Nat.reduceLeDiff, Nat.reduceAdd, eqOk_ii, eqv_ii, eqOk_ss, eqv_ss, ltOk_ii, lt_ii, l1, l2, l3, l4, Nat.zero_add, eq_self,  Bool.and_self, Bool.and_true, Bool.true_and, List.append_nil])
    refine ⟨os ++ [o], a, b, by rw [List.map_append]; rfl, by rw [List.length_append, List.length_append, hl]; rfl, fun q hq => ?_, rfl⟩
    rcases List.mem_append.mp hq with hq | hq
    · exact ho q hq
    · rw [List.mem_singleton.mp hq]; exact ⟨o1, o2⟩
  · obtain ⟨os, a, b, rfl, hl, ho, rfl⟩ := h
    (try simp only [Int.cast_ofNat_Int, evSs_cons, evSs_none, nxt_nx, nxt_ret, retQ_ret, retQ_nx, W_ok, W_bind, bind_ok', lift_some, cup_view, vw_non, vw_int, vw_bl, vw_str, vw_tup, vw_lst, wipeE, evS.eq_1, evS.eq_2, evS.eq_3, evS.eq_4, evS.eq_5, evS.eq_6, evS.eq_7, evS.eq_8, evS.eq_9, evS.eq_10, evS.eq_11, evE.eq_1, evE.eq_2, evE.eq_3, evE.eq_4, evE.eq_5, evE.eq_6, evE.eq_7, evE.eq_8, evE.eq_9, evE.eq_10, evE.eq_11, evE.eq_12, evE.eq_13, evE.eq_14, evE.eq_15, evE.eq_16, evE.eq_17, evE.eq_18, evE.eq_19, evEs, evO, evC, builtin.eq_1, builtin.eq_2, builtin.eq_3, builtin.eq_4, builtin.eq_5, builtin.eq_6, builtin.eq_7, builtin.eq_8, builtin.eq_9, builtin.eq_10, builtin.eq_11, builtin.eq_12, builtin.eq_13, builtin.eq_14, builtin.eq_15, builtin.eq_16, builtin.eq_17, builtin.eq_18, builtin.eq_19, builtin.eq_20, builtin.eq_21, builtin.eq_22, builtin.eq_23, builtin.eq_24, builtin.eq_25, builtin.eq_26, builtin.eq_27, builtin.eq_28, builtin.eq_29, builtin.eq_30, builtin.eq_31, builtin.eq_32, builtin.eq_33, builtin.eq_34, builtin.eq_35, builtin.eq_36, builtin.eq_37, builtin.eq_38, builtin.eq_39, builtin.eq_40, builtin.eq_41, builtin.eq_42, builtin.eq_43, binop.eq_1, binop.eq_2, binop.eq_3, binop.eq_4, binop.eq_5, binop.eq_6, binop.eq_7, binop.eq_8, binop.eq_9, binop.eq_10, binop.eq_11, binop.eq_12, cmpop.eq_1, cmpop.eq_2, cmpop.eq_3, cmpop.eq_4, cmpop.eq_5, cmpop.eq_6, cmpop.eq_7, cmpop.eq_8, cmpop.eq_9, cmpop.eq_10, cmpop.eq_11, cmpop.eq_12, cmpop.eq_13, cmpop.eq_14, cmpop.eq_15, cmpop.eq_16, cmpop.eq_17, cmpop.eq_18, cmpop.eq_19, isScalar, Tg.put.eq_1, Tg.put.eq_2, Tg.puts.eq_1, Tg.puts.eq_2, Nat.zero_le, List.set_cons_zero, List.set_cons_succ, List.getElem?_cons_zero, List.getElem?_cons_succ, List.map_cons, List.map_nil, List.cons_append, List.nil_append, List.replicate_succ, List.replicate_zero, Option.map_some, Option.map_none, Option.bind_some, if_true, if_false, Bool.not_true, Bool.not_false, Nat.sub_self, List.length_cons, List.length_nil, Bool.false_eq_true, reduceCtorEq, and_self, and_true, true_and, decide_true, decide_false, Int.reduceLT, Int.reduceLE, Int.reduceEq, Nat.reduceLeDiff, Nat.reduceAdd, eqOk_ii, eqv_ii, eqOk_ss, eqv_ss, ltOk_ii, lt_ii, l1, l2, l3, l4, Nat.zero_add, eq_self,  Bool.and_self, Bool.and_true, Bool.true_and, List.append_nil])
    refine go os a b ho ?_
    rw [hl, List.length_range]
    omega
/-! ### alike -/
/-- a tree of tuples over scalars, so deep -/
def flatD : D → Bool
  | .non => true
  | .bl _ => true
  | .int _ => true
  | .str _ => true
  | _ => false
inductive Deep : Nat → D → Prop
  | flat {n : Nat} {d : D} : flatD d = true → Deep n d
  | tup {n : Nat} {xs : List D} : xs.length ≤ 1000000 → (∀ x ∈ xs, Deep n x) → Deep (n + 1) (.tup xs)
theorem allBl_true : ∀ xs : List D, (∀ x ∈ xs, x = .bl true) → (allBl xs).map (fun bs => D.bl (bs.all id)) = some (.bl true)
  | [], _ => rfl
  | x :: xs, h => by
    have ih := allBl_true xs fun y hy => h y (List.mem_cons_of_mem _ hy)
    rw [h x List.mem_cons_self, allBl]
    cases e : allBl xs with
    | none => rw [e] at ih; cases ih
    | some bs => rw [e] at ih; simpa using ih
theorem same_deep (hP : P.lookup ("_law_same" : Str) = some sameF) {S : Sto} : ∀ {n k : Nat} {d : D}, n + 1 ≤ k → Deep n d → callP P k "_law_same" [d, d] S = .ok (.bl true) S := by
  intro n
  induction n with
  | zero =>
    intro k d hk h
    apply W.eq
    refine W_call hk hP rfl fun j _ => ?_
    cases h with
    | flat h =>
      cases d with
      | bl b => cases b <;> simp only [sameF, Int.cast_ofNat_Int, evSs_cons, evSs_none, nxt_nx, nxt_ret, retQ_ret, retQ_nx, W_ok, W_bind, bind_ok', lift_some, cup_view, vw_non, vw_int, vw_bl, vw_str, vw_tup, vw_lst, wipeE, evS.eq_1, evS.eq_2, evS.eq_3, evS.eq_4, evS.eq_5, evS.eq_6, evS.eq_7, evS.eq_8, evS.eq_9, evS.eq_10, evS.eq_11, evE.eq_1, evE.eq_2, evE.eq_3, evE.eq_4, evE.eq_5, evE.eq_6, evE.eq_7, evE.eq_8, evE.eq_9, evE.eq_10, evE.eq_11, evE.eq_12, evE.eq_13, evE.eq_14, evE.eq_15, evE.eq_16, evE.eq_17, evE.eq_18, evE.eq_19, evEs, evO, evC, builtin.eq_1, builtin.eq_2, builtin.eq_3, builtin.eq_4, builtin.eq_5, builtin.eq_6, builtin.eq_7, builtin.eq_8, builtin.eq_9, builtin.eq_10, builtin.eq_11, builtin.eq_12, builtin.eq_13, builtin.eq_14, builtin.eq_15, builtin.eq_16, builtin.eq_17, builtin.eq_18, builtin.eq_19, builtin.eq_20, builtin.eq_21, builtin.eq_22, builtin.eq_23, builtin.eq_24, builtin.eq_25, builtin.eq_26, builtin.eq_27, builtin.eq_28, builtin.eq_29, builtin.eq_30, builtin.eq_31, builtin.eq_32, builtin.eq_33, builtin.eq_34, builtin.eq_35, builtin.eq_36, builtin.eq_37, builtin.eq_38, builtin.eq_39, builtin.eq_40, builtin.eq_41, builtin.eq_42, builtin.eq_43, binop.eq_1, binop.eq_2, binop.eq_3, binop.eq_4, binop.eq_5, binop.eq_6, binop.eq_7, binop.eq_8, binop.eq_9, binop.eq_10, binop.eq_11, binop.eq_12, cmpop.eq_1, cmpop.eq_2, cmpop.eq_3, cmpop.eq_4, cmpop.eq_5, cmpop.eq_6, cmpop.eq_7, cmpop.eq_8, cmpop.eq_9, cmpop.eq_10, cmpop.eq_11, cmpop.eq_12, cmpop.eq_13, cmpop.eq_14, cmpop.eq_15, cmpop.eq_16, cmpop.eq_17, cmpop.eq_18, cmpop.eq_19, isScalar, Tg.put.eq_1, Tg.put.eq_2, Tg.puts.eq_1, Tg.puts.eq_2, Nat.zero_le, List.set_cons_zero, List.set_cons_succ, List.getElem?_cons_zero, List.getElem?_cons_succ, List.map_cons, List.map_nil, List.cons_append, List.nil_append, List.replicate_succ, List.replicate_zero, Option.map_some, Option.map_none, Option.bind_some, if_true, if_false, Bool.not_true, Bool.not_false, Nat.sub_self, List.length_cons, List.length_nil, Bool.false_eq_true, reduceCtorEq, and_self, and_true, true_and, decide_true, decide_false, Int.reduceLT, Int.reduceLE, Int.reduceEq, Nat.reduceLeDiff, Nat.reduceAdd, eqOk_ii, eqv_ii, eqOk_ss, eqv_ss, ltOk_ii, lt_ii, l1, l2, l3, l4, Nat.zero_add, eq_self,  Bool.and_self, Bool.and_true, Bool.true_and, List.append_nil]
      | non => simp only [sameF, Int.cast_ofNat_Int, evSs_cons, evSs_none, nxt_nx, nxt_ret, retQ_ret, retQ_nx, W_ok, W_bind, bind_ok', lift_some, cup_view, vw_non, vw_int, vw_bl, vw_str, vw_tup, vw_lst, wipeE, evS.eq_1, evS.eq_2, evS.eq_3, evS.eq_4, evS.eq_5, evS.eq_6, evS.eq_7, evS.eq_8, evS.eq_9, evS.eq_10, evS.eq_11, evE.eq_1, evE.eq_2, evE.eq_3, evE.eq_4, evE.eq_5, evE.eq_6, evE.eq_7, evE.eq_8, evE.eq_9, evE.eq_10, evE.eq_11, evE.eq_12, evE.eq_13, evE.eq_14, evE.eq_15, evE.eq_16, evE.eq_17, evE.eq_18, evE.eq_19, evEs, evO, evC, builtin.eq_1, builtin.eq_2, builtin.eq_3, builtin.eq_4, builtin.eq_5, builtin.eq_6, builtin.eq_7, builtin.eq_8, builtin.eq_9, builtin.eq_10, builtin.eq_11, builtin.eq_12, builtin.eq_13, builtin.eq_14, builtin.eq_15, builtin.eq_16, builtin.eq_17, builtin.eq_18, builtin.eq_19, builtin.eq_20, builtin.eq_21, builtin.eq_22, builtin.eq_23, builtin.eq_24, builtin.eq_25, builtin.eq_26, builtin.eq_27, builtin.eq_28, builtin.eq_29, builtin.eq_30, builtin.eq_31, builtin.eq_32, builtin.eq_33, builtin.eq_34, builtin.eq_35, builtin.eq_36, builtin.eq_37, builtin.eq_38, builtin.eq_39, builtin.eq_40, builtin.eq_41, builtin.eq_42, builtin.eq_43, binop.eq_1, binop.eq_2, binop.eq_3, binop.eq_4, binop.eq_5, binop.eq_6, binop.eq_7, binop.eq_8, binop.eq_9, binop.eq_10, binop.eq_11, binop.eq_12, cmpop.eq_1, cmpop.eq_2, cmpop.eq_3, cmpop.eq_4, cmpop.eq_5, cmpop.eq_6, cmpop.eq_7, cmpop.eq_8, cmpop.eq_9, cmpop.eq_10, cmpop.eq_11, cmpop.eq_12, cmpop.eq_13, cmpop.eq_14, cmpop.eq_15, cmpop.eq_16, cmpop.eq_17, cmpop.eq_18, cmpop.eq_19, isScalar, Tg.put.eq_1, Tg.put.eq_2, Tg.puts.eq_1, Tg.puts.eq_2, Nat.zero_le, List.set_cons_zero, List.set_cons_succ, List.getElem?_cons_zero, List.getElem?_cons_succ, List.map_cons, List.map_nil, List.cons_append, List.nil_append, List.replicate_succ, List.replicate_zero, Option.map_some, Option.map_none, Option.bind_some, if_true, if_false, Bool.not_true, Bool.not_false, Nat.sub_self, List.length_cons, List.length_nil, Bool.false_eq_true, reduceCtorEq, and_self, and_true, true_and, decide_true, decide_false, Int.reduceLT, Int.reduceLE, Int.reduceEq, Nat.reduceLeDiff, Nat.reduceAdd, eqOk_ii, eqv_ii, eqOk_ss, eqv_ss, ltOk_ii, lt_ii, l1, l2, l3, l4, Nat.zero_add, eq_self,  Bool.and_self, Bool.and_true, Bool.true_and, List.append_nil]
      | int i => simp only [sameF, Int.cast_ofNat_Int, evSs_cons, evSs_none, nxt_nx, nxt_ret, retQ_ret, retQ_nx, W_ok, W_bind, bind_ok', lift_some, cup_view, vw_non, vw_int, vw_bl, vw_str, vw_tup, vw_lst, wipeE, evS.eq_1, evS.eq_2, evS.eq_3, evS.eq_4, evS.eq_5, evS.eq_6, evS.eq_7, evS.eq_8, evS.eq_9, evS.eq_10, evS.eq_11, evE.eq_1, evE.eq_2, evE.eq_3, evE.eq_4, evE.eq_5, evE.eq_6, evE.eq_7, evE.eq_8, evE.eq_9, evE.eq_10, evE.eq_11, evE.eq_12, evE.eq_13, evE.eq_14, evE.eq_15, evE.eq_16, evE.eq_17, evE.eq_18, evE.eq_19, evEs, evO, evC, builtin.eq_1, builtin.eq_2, builtin.eq_3, builtin.eq_4, builtin.eq_5, builtin.eq_6, builtin.eq_7, builtin.eq_8, builtin.eq_9, builtin.eq_10, builtin.eq_11, builtin.eq_12, builtin.eq_13, builtin.eq_14, builtin.eq_15, builtin.eq_16, builtin.eq_17, builtin.eq_18, builtin.eq_19, builtin.eq_20, builtin.eq_21, builtin.eq_22, builtin.eq_23, builtin.eq_24, builtin.eq_25, builtin.eq_26, builtin.eq_27, builtin.eq_28, builtin.eq_29, builtin.eq_30, builtin.eq_31, builtin.eq_32, builtin.eq_33, builtin.eq_34, builtin.eq_35, builtin.eq_36, builtin.eq_37, builtin.eq_38, builtin.eq_39, builtin.eq_40, builtin.eq_41, builtin.eq_42, builtin.eq_43, binop.eq_1, binop.eq_2, binop.eq_3, binop.eq_4, binop.eq_5, binop.eq_6, binop.eq_7, binop.eq_8, binop.eq_9, binop.eq_10, binop.eq_11, binop.eq_12, cmpop.eq_1, cmpop.eq_2, cmpop.eq_3, cmpop.eq_4, cmpop.eq_5, cmpop.eq_6, cmpop.eq_7, cmpop.eq_8, cmpop.eq_9, cmpop.eq_10, cmpop.eq_11, cmpop.eq_12, cmpop.eq_13, cmpop.eq_14, cmpop.eq_15, cmpop.eq_16, cmpop.eq_17, cmpop.eq_18, cmpop.eq_19, isScalar, Tg.put.eq_1, Tg.put.eq_2, Tg.puts.eq_1, Tg.puts.eq_2, Nat.zero_le, List.set_cons_zero, List.set_cons_succ, List.getElem?_cons_zero, List.getElem?_cons_succ, List.map_cons, List.map_nil, List.cons_append, List.nil_append, List.replicate_succ, List.replicate_zero, Option.map_some, Option.map_none, Option.bind_some, if_true, if_false, Bool.not_true, Bool.not_false, Nat.sub_self, List.length_cons, List.length_nil, Bool.false_eq_true, reduceCtorEq, and_self, and_true, true_and, decide_true, decide_false, Int.reduceLT, Int.reduceLE, Int.reduceEq, Nat.reduceLeDiff, Nat.reduceAdd, eqOk_ii, eqv_ii, eqOk_ss, eqv_ss, ltOk_ii, lt_ii, l1, l2, l3, l4, Nat.zero_add, eq_self,  Bool.and_self, Bool.and_true, Bool.true_and, List.append_nil]
      | str i => simp only [sameF, Int.cast_ofNat_Int, evSs_cons, evSs_none, nxt_nx, nxt_ret, retQ_ret, retQ_nx, W_ok, W_bind, bind_ok', lift_some, cup_view, vw_non, vw_int, vw_bl, vw_str, vw_tup, vw_lst, wipeE, evS.eq_1, evS.eq_2, evS.eq_3, evS.eq_4, evS.eq_5, evS.eq_6, evS.eq_7, evS.eq_8, evS.eq_9, evS.eq_10, evS.eq_11, evE.eq_1, evE.eq_2, evE.eq_3, evE.eq_4, evE.eq_5, evE.eq_6, evE.eq_7, evE.eq_8, evE.eq_9, evE.eq_10, evE.eq_11, evE.eq_12, evE.eq_13, evE.eq_14, evE.eq_15, evE.eq_16, evE.eq_17, evE.eq_18, evE.eq_19, evEs, evO, evC, builtin.eq_1, builtin.eq_2, builtin.eq_3, builtin.eq_4, builtin.eq_5, builtin.eq_6, builtin.eq_7, builtin.eq_8, builtin.eq_9, builtin.eq_10, builtin.eq_11, builtin.eq_12, builtin.eq_13, builtin.eq_14, builtin.eq_15, builtin.eq_16, builtin.eq_17, builtin.eq_18, builtin.eq_19, builtin.eq_20, builtin.eq_21, builtin.eq_22, builtin.eq_23, builtin.eq_24, builtin.eq_25, builtin.eq_26, builtin.eq_27, builtin.eq_28, builtin.eq_29, builtin.eq_30, builtin.eq_31, builtin.eq_32, builtin.eq_33, builtin.eq_34, builtin.eq_35, builtin.eq_36, builtin.eq_37, builtin.eq_38, builtin.eq_39, builtin.eq_40, builtin.eq_41, builtin.eq_42, builtin.eq_43, binop.eq_1, binop.eq_2, binop.eq_3, binop.eq_4, binop.eq_5, binop.eq_6, binop.eq_7, binop.eq_8, binop.eq_9, binop.eq_10, binop.eq_11, binop.eq_12, cmpop.eq_1, cmpop.eq_2, cmpop.eq_3, cmpop.eq_4, cmpop.eq_5, cmpop.eq_6, cmpop.eq_7, cmpop.eq_8, cmpop.eq_9, cmpop.eq_10, cmpop.eq_11, cmpop.eq_12, cmpop.eq_13, cmpop.eq_14, cmpop.eq_15, cmpop.eq_16, cmpop.eq_17, cmpop.eq_18, cmpop.eq_19, isScalar, Tg.put.eq_1, Tg.put.eq_2, Tg.puts.eq_1, Tg.puts.eq_2, Nat.zero_le, List.set_cons_zero, List.set_cons_succ, List.getElem?_cons_zero, List.getElem?_cons_succ, List.map_cons, List.map_nil, List.cons_append, List.nil_append, List.replicate_succ, List.replicate_zero, Option.map_some, Option.map_none, Option.bind_some, if_true, if_false, Bool.not_true, Bool.not_false, Nat.sub_self, List.length_cons, List.length_nil, Bool.false_eq_true, reduceCtorEq, and_self, and_true, true_and, decide_true, decide_false, Int.reduceLT, Int.reduceLE, Int.reduceEq, Nat.reduceLeDiff, Nat.reduceAdd, eqOk_ii, eqv_ii, eqOk_ss, eqv_ss, ltOk_ii, lt_ii, l1, l2, l3, l4, Nat.zero_add, eq_self,  Bool.and_self, Bool.and_true, Bool.true_and, List.append_nil]
      | _ => cases h
  | succ n ih =>
    intro k d hk h
    apply W.eq
    refine W_call (by omega) hP rfl fun j hj => ?_
    cases h with
    | flat h =>
      cases d with
      | bl b => cases b <;> simp only [sameF, Int.cast_ofNat_Int, evSs_cons, evSs_none, nxt_nx, nxt_ret, retQ_ret, retQ_nx, W_ok, W_bind, bind_ok', lift_some, cup_view, vw_non, vw_int, vw_bl, vw_str, vw_tup, vw_lst, wipeE, evS.eq_1, evS.eq_2, evS.eq_3, evS.eq_4, evS.eq_5, evS.eq_6, evS.eq_7, evS.eq_8, evS.eq_9, evS.eq_10, evS.eq_11, evE.eq_1, evE.eq_2, evE.eq_3, evE.eq_4, evE.eq_5, evE.eq_6, evE.eq_7, evE.eq_8, evE.eq_9, evE.eq_10, evE.eq_11, evE.eq_12, evE.eq_13, evE.eq_14, evE.eq_15, evE.eq_16, evE.eq_17, evE.eq_18, evE.eq_19, evEs, evO, evC, builtin.eq_1, builtin.eq_2, builtin.eq_3, builtin.eq_4, builtin.eq_5, builtin.eq_6, builtin.eq_7, builtin.eq_8, builtin.eq_9, builtin.eq_10, builtin.eq_11, builtin.eq_12, builtin.eq_13, builtin.eq_14, builtin.eq_15, builtin.eq_16, builtin.eq_17, builtin.eq_18, builtin.eq_19, builtin.eq_20, builtin.eq_21, builtin.eq_22, builtin.eq_23, builtin.eq_24, builtin.eq_25, builtin.eq_26, builtin.eq_27, builtin.eq_28, builtin.eq_29, builtin.eq_30, builtin.eq_31, builtin.eq_32, builtin.eq_33, builtin.eq_34, builtin.eq_35, builtin.eq_36, builtin.eq_37, builtin.eq_38, builtin.eq_39, builtin.eq_40, builtin.eq_41, builtin.eq_42, builtin.eq_43, binop.eq_1, binop.eq_2, binop.eq_3, binop.eq_4, binop.eq_5, binop.eq_6, binop.eq_7, binop.eq_8, binop.eq_9, binop.eq_10, binop.eq_11, binop.eq_12, cmpop.eq_1, cmpop.eq_2, cmpop.eq_3, cmpop.eq_4, cmpop.eq_5, cmpop.eq_6, cmpop.eq_7, cmpop.eq_8, cmpop.eq_9, cmpop.eq_10, cmpop.eq_11, cmpop.eq_12, cmpop.eq_13, cmpop.eq_14, cmpop.eq_15, cmpop.eq_16, cmpop.eq_17, cmpop.eq_18, cmpop.eq_19, isScalar, Tg.put.eq_1, Tg.put.eq_2, Tg.puts.eq_1, Tg.puts.eq_2, Nat.zero_le, List.set_cons_zero, List.set_cons_succ, List.getElem?_cons_zero, List.getElem?_cons_succ, List.map_cons, List.map_nil, List.cons_append, List.nil_append, List.replicate_succ, List.replicate_zero, Option.map_some, Option.map_none, Option.bind_some, if_true, if_false, Bool.not_true, Bool.not_false, Nat.sub_self, List.length_cons, List.length_nil, Bool.false_eq_true, reduceCtorEq, and_self, and_true, true_and, decide_true, decide_false, Int.reduceLT, Int.reduceLE, Int.reduceEq, Nat.reduceLeDiff, Nat.reduceAdd, eqOk_ii, eqv_ii, eqOk_ss, eqv_ss, ltOk_ii, lt_ii, l1, l2, l3, l4, Nat.zero_add, eq_self,  Bool.and_self, Bool.and_true, Bool.true_and, List.append_nil]
      | non => simp only [sameF, Int.cast_ofNat_Int, evSs_cons, evSs_none, nxt_nx, nxt_ret, retQ_ret, retQ_nx, W_ok, W_bind, bind_ok', lift_some, cup_view, vw_non, vw_int, vw_bl, vw_str, vw_tup, vw_lst, wipeE, evS.eq_1, evS.eq_2, evS.eq_3, evS.eq_4, evS.eq_5, evS.eq_6, evS.eq_7, evS.eq_8, evS.eq_9, evS.eq_10, evS.eq_11, evE.eq_1, evE.eq_2, evE.eq_3, evE.eq_4, evE.eq_5, evE.eq_6, evE.eq_7, evE.eq_8, evE.eq_9, evE.eq_10, evE.eq_11, evE.eq_12, evE.eq_13, evE.eq_14, evE.eq_15, evE.eq_16, evE.eq_17, evE.eq_18, evE.eq_19, evEs, evO, evC, builtin.eq_1, builtin.eq_2, builtin.eq_3, builtin.eq_4, builtin.eq_5, builtin.eq_6, builtin.eq_7, builtin.eq_8, builtin.eq_9, builtin.eq_10, builtin.eq_11, builtin.eq_12, builtin.eq_13, builtin.eq_14, builtin.eq_15, builtin.eq_16, builtin.eq_17, builtin.eq_18, builtin.eq_19, builtin.eq_20, builtin.eq_21, builtin.eq_22, builtin.eq_23, builtin.eq_24, builtin.eq_25, builtin.eq_26, builtin.eq_27, builtin.eq_28, builtin.eq_29, builtin.eq_30, builtin.eq_31, builtin.eq_32, builtin.eq_33, builtin.eq_34, builtin.eq_35, builtin.eq_36, builtin.eq_37, builtin.eq_38, builtin.eq_39, builtin.eq_40, builtin.eq_41, builtin.eq_42, builtin.eq_43, binop.eq_1, binop.eq_2, binop.eq_3, binop.eq_4, binop.eq_5, binop.eq_6, binop.eq_7, binop.eq_8, binop.eq_9, binop.eq_10, binop.eq_11, binop.eq_12, cmpop.eq_1, cmpop.eq_2, cmpop.eq_3, cmpop.eq_4, cmpop.eq_5, cmpop.eq_6, cmpop.eq_7, cmpop.eq_8, cmpop.eq_9, cmpop.eq_10, cmpop.eq_11, cmpop.eq_12, cmpop.eq_13, cmpop.eq_14, cmpop.eq_15, cmpop.eq_16, cmpop.eq_17, cmpop.eq_18, cmpop.eq_19, isScalar, Tg.put.eq_1, Tg.put.eq_2, Tg.puts.eq_1, Tg.puts.eq_2, Nat.zero_le, List.set_cons_zero, List.set_cons_succ, List.getElem?_cons_zero, List.getElem?_cons_succ, List.map_cons, List.map_nil, List.cons_append, List.nil_append, List.replicate_succ, List.replicate_zero, Option.map_some, Option.map_none, Option.bind_some, if_true, if_false, Bool.not_true, Bool.not_false, Nat.sub_self, List.length_cons, List.length_nil, Bool.false_eq_true, reduceCtorEq, and_self, and_true, true_and, decide_true, decide_false, Int.reduceLT, Int.reduceLE, Int.reduceEq, Nat.reduceLeDiff, Nat.reduceAdd, eqOk_ii, eqv_ii, eqOk_ss, eqv_ss, ltOk_ii, lt_ii, l1, l2, l3, l4, Nat.zero_add, eq_self,  Bool.and_self, Bool.and_true, Bool.true_and, List.append_nil]
      | int i => simp only [sameF, Int.cast_ofNat_Int, evSs_cons, evSs_none, nxt_nx, nxt_ret, retQ_ret, retQ_nx, W_ok, W_bind, bind_ok', lift_some, cup_view, vw_non, vw_int, vw_bl, vw_str, vw_tup, vw_lst, wipeE, evS.eq_1, evS.eq_2, evS.eq_3, evS.eq_4, evS.eq_5, evS.eq_6, evS.eq_7, evS.eq_8, evS.eq_9, evS.eq_10, evS.eq_11, evE.eq_1, evE.eq_2, evE.eq_3, evE.eq_4, evE.eq_5, evE.eq_6, evE.eq_7, evE.eq_8, evE.eq_9, evE.eq_10, evE.eq_11, evE.eq_12, evE.eq_13, evE.eq_14, evE.eq_15, evE.eq_16, evE.eq_17, evE.eq_18, evE.eq_19, evEs, evO, evC, builtin.eq_1, builtin.eq_2, builtin.eq_3, builtin.eq_4, builtin.eq_5, builtin.eq_6, builtin.eq_7, builtin.eq_8, builtin.eq_9, builtin.eq_10, builtin.eq_11, builtin.eq_12, builtin.eq_13, builtin.eq_14, builtin.eq_15, builtin.eq_16, builtin.eq_17, builtin.eq_18, builtin.eq_19, builtin.eq_20, builtin.eq_21, builtin.eq_22, builtin.eq_23, builtin.eq_24, builtin.eq_25, builtin.eq_26, builtin.eq_27, builtin.eq_28, builtin.eq_29, builtin.eq_30, builtin.eq_31, builtin.eq_32, builtin.eq_33, builtin.eq_34, builtin.eq_35, builtin.eq_36, builtin.eq_37, builtin.eq_38, builtin.eq_39, builtin.eq_40, builtin.eq_41, builtin.eq_42, builtin.eq_43, binop.eq_1, binop.eq_2, binop.eq_3, binop.eq_4, binop.eq_5, binop.eq_6, binop.eq_7, binop.eq_8, binop.eq_9, binop.eq_10, binop.eq_11, binop.eq_12, cmpop.eq_1, cmpop.eq_2, cmpop.eq_3, cmpop.eq_4, cmpop.eq_5, cmpop.eq_6, cmpop.eq_7, cmpop.eq_8, cmpop.eq_9, cmpop.eq_10, cmpop.eq_11, cmpop.eq_12, cmpop.eq_13, cmpop.eq_14, cmpop.eq_15, cmpop.eq_16, cmpop.eq_17, cmpop.eq_18, cmpop.eq_19, isScalar, Tg.put.eq_1, Tg.put.eq_2, Tg.puts.eq_1, Tg.puts.eq_2, Nat.zero_le, List.set_cons_zero, List.set_cons_succ, List.getElem?_cons_zero, List.getElem?_cons_succ, List.map_cons, List.map_nil, List.cons_append, List.nil_append, List.replicate_succ, List.replicate_zero, Option.map_some, Option.map_none, Option.bind_some, if_true, if_false, Bool.not_true, Bool.not_false, Nat.sub_self, List.length_cons, List.length_nil, Bool.false_eq_true, reduceCtorEq, and_self, and_true, true_and, decide_true, decide_false, Int.reduceLT, Int.reduceLE, Int.reduceEq, Nat.reduceLeDiff, Nat.reduceAdd, eqOk_ii, eqv_ii, eqOk_ss, eqv_ss, ltOk_ii, lt_ii, l1, l2, l3, l4, Nat.zero_add, eq_self,  Bool.and_self, Bool.and_true, Bool.true_and, List.append_nil]
      | str i => simp only [sameF, Int.cast_ofNat_Int, evSs_cons, evSs_none, nxt_nx, nxt_ret, retQ_ret, retQ_nx, W_ok, W_bind, bind_ok', lift_some, cup_view, vw_non, vw_int, vw_bl, vw_str, vw_tup, vw_lst, wipeE, evS.eq_1, evS.eq_2, evS.eq_3, evS.eq_4, evS.eq_5, evS.eq_6, evS.eq_7, evS.eq_8, evS.eq_9, evS.eq_10, evS.eq_11, evE.eq_1, evE.eq_2, evE.eq_3, evE.eq_4, evE.eq_5, evE.eq_6, evE.eq_7, evE.eq_8, evE.eq_9, evE.eq_10, evE.eq_11, evE.eq_12, evE.eq_13, evE.eq_14, evE.eq_15, evE.eq_16, evE.eq_17, evE.eq_18, evE.eq_19, evEs, evO, evC, builtin.eq_1, builtin.eq_2, builtin.eq_3, builtin.eq_4, builtin.eq_5, builtin.eq_6, builtin.eq_7, builtin.eq_8, builtin.eq_9, builtin.eq_10, builtin.eq_11, builtin.eq_12, builtin.eq_13, builtin.eq_14, builtin.eq_15, builtin.eq_16, builtin.eq_17, builtin.eq_18, builtin.eq_19, builtin.eq_20, builtin.eq_21, builtin.eq_22, builtin.eq_23, builtin.eq_24, builtin.eq_25, builtin.eq_26, builtin.eq_27, builtin.eq_28, builtin.eq_29, builtin.eq_30, builtin.eq_31, builtin.eq_32, builtin.eq_33, builtin.eq_34, builtin.eq_35, builtin.eq_36, builtin.eq_37, builtin.eq_38, builtin.eq_39, builtin.eq_40, builtin.eq_41, builtin.eq_42, builtin.eq_43, binop.eq_1, binop.eq_2, binop.eq_3, binop.eq_4, binop.eq_5, binop.eq_6, binop.eq_7, binop.eq_8, binop.eq_9, binop.eq_10, binop.eq_11, binop.eq_12, cmpop.eq_1, cmpop.eq_2, cmpop.eq_3, cmpop.eq_4, cmpop.eq_5, cmpop.eq_6, cmpop.eq_7, cmpop.eq_8, cmpop.eq_9, cmpop.eq_10, cmpop.eq_11, cmpop.eq_12, cmpop.eq_13, cmpop.eq_14, cmpop.eq_15, cmpop.eq_16, cmpop.eq_17, cmpop.eq_18, cmpop.eq_19, isScalar, Tg.put.eq_1, Tg.put.eq_2, Tg.puts.eq_1, Tg.puts.eq_2, Nat.zero_le, List.set_cons_zero, List.set_cons_succ, List.getElem?_cons_zero, List.getElem?_cons_succ, List.map_cons, List.map_nil, List.cons_append, List.nil_append, List.replicate_succ, List.replicate_zero, Option.map_some, Option.map_none, Option.bind_some, if_true, if_false, Bool.not_true, Bool.not_false, Nat.sub_self, List.length_cons, List.length_nil, Bool.false_eq_true, reduceCtorEq, and_self, and_true, true_and, decide_true, decide_false, Int.reduceLT, Int.reduceLE, Int.reduceEq, Nat.reduceLeDiff, Nat.reduceAdd, eqOk_ii, eqv_ii, eqOk_ss, eqv_ss, ltOk_ii, lt_ii, l1, l2, l3, l4, Nat.zero_add, eq_self,  Bool.and_self, Bool.and_true, Bool.true_and, List.append_nil]
      | _ => cases h
    | tup hl h =>
      rename_i xs
      simp only [sameF, Int.cast_ofNat_Int, evSs_cons, evSs_none, nxt_nx, nxt_ret, retQ_ret, retQ_nx, W_ok, W_bind, bind_ok', lift_some, cup_view, vw_non, vw_int, vw_bl, vw_str, vw_tup, vw_lst, wipeE, evS.eq_1, evS.eq_2, evS.eq_3, evS.eq_4, evS.eq_5, evS.eq_6, evS.eq_7, evS.eq_8, evS.eq_9, evS.eq_10, evS.eq_11, evE.eq_1, evE.eq_2, evE.eq_3, evE.eq_4, evE.eq_5, evE.eq_6, evE.eq_7, evE.eq_8, evE.eq_9, evE.eq_10, evE.eq_11, evE.eq_12, evE.eq_13, evE.eq_14, evE.eq_15, evE.eq_16, evE.eq_17, evE.eq_18, evE.eq_19, evEs, evO, evC, builtin.eq_1, builtin.eq_2, builtin.eq_3, builtin.eq_4, builtin.eq_5, builtin.eq_6, builtin.eq_7, builtin.eq_8, builtin.eq_9, builtin.eq_10, builtin.eq_11, builtin.eq_12, builtin.eq_13, builtin.eq_14, builtin.eq_15, builtin.eq_16, builtin.eq_17, builtin.eq_18, builtin.eq_19, builtin.eq_20, builtin.eq_21, builtin.eq_22, builtin.eq_23, builtin.eq_24, builtin.eq_25, builtin.eq_26, builtin.eq_27, builtin.eq_28, builtin.eq_29, builtin.eq_30, builtin.eq_31, builtin.eq_32, builtin.eq_33, builtin.eq_34, builtin.eq_35, builtin.eq_36, builtin.eq_37, builtin.eq_38, builtin.eq_39, builtin.eq_40, builtin.eq_41, builtin.eq_42, builtin.eq_43, binop.eq_1, binop.eq_2, binop.eq_3, binop.eq_4, binop.eq_5, binop.eq_6, binop.eq_7, binop.eq_8, binop.eq_9, binop.eq_10, binop.eq_11, binop.eq_12, cmpop.eq_1, cmpop.eq_2, cmpop.eq_3, cmpop.eq_4, cmpop.eq_5, cmpop.eq_6, cmpop.eq_7, cmpop.eq_8, cmpop.eq_9, cmpop.eq_10, cmpop.eq_11, cmpop.eq_12, cmpop.eq_13, cmpop.eq_14, cmpop.eq_15, cmpop.eq_16, cmpop.eq_17, cmpop.eq_18, cmpop.eq_19, isScalar, Tg.put.eq_1, Tg.put.eq_2, Tg.puts.eq_1, Tg.puts.eq_2, Nat.zero_le, List.set_cons_zero, List.set_cons_succ, List.getElem?_cons_zero, List.getElem?_cons_succ, List.map_cons, List.map_nil, List.cons_append, List.nil_append, List.replicate_succ, List.replicate_zero, Option.map_some, Option.map_none, Option.bind_some, if_true, if_false, Bool.not_true, Bool.not_false, Nat.sub_self, List.length_cons, List.length_nil, Bool.false_eq_true, reduceCtorEq, and_self, and_true, true_and, decide_true, decide_false, Int.reduceLT, Int.reduceLE, Int.reduceEq, Nat.reduceLeDiff, Nat.reduceAdd, eqOk_ii, eqv_ii, eqOk_ss, eqv_ss, ltOk_ii, lt_ii, l1, l2, l3, l4, Nat.zero_add, eq_self,  Bool.and_self, Bool.and_true, Bool.true_and, List.append_nil]
      refine W_comp (fun i : Nat => D.int (i : Int)) ?_
      (try simp only [Int.cast_ofNat_Int, evSs_cons, evSs_none, nxt_nx, nxt_ret, retQ_ret, retQ_nx, W_ok, W_bind, bind_ok', lift_some, cup_view, vw_non, vw_int, vw_bl, vw_str, vw_tup, vw_lst, wipeE, evS.eq_1, evS.eq_2, evS.eq_3, evS.eq_4, evS.eq_5, evS.eq_6, evS.eq_7, evS.eq_8, evS.eq_9, evS.eq_10, evS.eq_11, evE.eq_1, evE.eq_2, evE.eq_3, evE.eq_4, evE.eq_5, evE.eq_6, evE.eq_7, evE.eq_8, evE.eq_9, evE.eq_10, evE.eq_11, evE.eq_12, evE.eq_13, evE.eq_14, evE.eq_15, evE.eq_16, evE.eq_17, evE.eq_18, evE.eq_19, evEs, evO, evC, builtin.eq_1, builtin.eq_2, builtin.eq_3, builtin.eq_4, builtin.eq_5, builtin.eq_6, builtin.eq_7, builtin.eq_8, builtin.eq_9, builtin.eq_10, builtin.eq_11, builtin.eq_12, builtin.eq_13, builtin.eq_14, builtin.eq_15, builtin.eq_16, builtin.eq_17, builtin.eq_18, builtin.eq_19, builtin.eq_20, builtin.eq_21, builtin.eq_22, builtin.eq_23, builtin.eq_24, builtin.eq_25, builtin.eq_26, builtin.eq_27, builtin.eq_28, builtin.eq_29, builtin.eq_30, builtin.eq_31, builtin.eq_32, builtin.eq_33, builtin.eq_34, builtin.eq_35, builtin.eq_36, builtin.eq_37, builtin.eq_38, builtin.eq_39, builtin.eq_40, builtin.eq_41, builtin.eq_42, builtin.eq_43, binop.eq_1, binop.eq_2, binop.eq_3, binop.eq_4, binop.eq_5, binop.eq_6, binop.eq_7, binop.eq_8, binop.eq_9, binop.eq_10, binop.eq_11, binop.eq_12, cmpop.eq_1, cmpop.eq_2, cmpop.eq_3, cmpop.eq_4, cmpop.eq_5, cmpop.eq_6, cmpop.eq_7, cmpop.eq_8, cmpop.eq_9, cmpop.eq_10, cmpop.eq_11, cmpop.eq_12, cmpop.eq_13, cmpop.eq_14, cmpop.eq_15, cmpop.eq_16, cmpop.eq_17, cmpop.eq_18, cmpop.eq_19, isScalar, Tg.put.eq_1, Tg.put.eq_2, Tg.puts.eq_1, Tg.puts.eq_2, Nat.zero_le, List.set_cons_zero, List.set_cons_succ, List.getElem?_cons_zero, List.getElem?_cons_succ, List.map_cons, List.map_nil, List.cons_append, List.nil_append, List.replicate_succ, List.replicate_zero, Option.map_some, Option.map_none, Option.bind_some, if_true, if_false, Bool.not_true, Bool.not_false, Nat.sub_self, List.length_cons, List.length_nil, Bool.false_eq_true, reduceCtorEq, and_self, and_true, true_and, decide_true, decide_false, Int.reduceLT, Int.reduceLE, Int.reduceEq, Nat.reduceLeDiff, Nat.reduceAdd, eqOk_ii, eqv_ii, eqOk_ss, eqv_ss, ltOk_ii, lt_ii, l1, l2, l3, l4, Nat.zero_add, eq_self,  Bool.and_self, Bool.and_true, Bool.true_and, List.append_nil])
      refine ⟨List.range xs.length, fun _ acc T => (∀ x ∈ acc, x = .bl true) ∧ T = S, ?_, rfl, by simp [line]; omega, ⟨(fun x h => by simp at h), rfl⟩, (fun pre i suf acc T e h => ?_), fun acc T h => ?_⟩
      · have := walk_rng (S := S) (j := (xs.length : Nat)) (by omega) (by omega)
        rw [Int.toNat_natCast] at this
        exact this
      · obtain ⟨h1, rfl⟩ := h
        have hi : i < xs.length := List.mem_range.mp (by rw [e]; simp)
        obtain ⟨x, e1, _, e2⟩ := ix_at (xs := xs) (r := (i : Nat)) (by omega) (by omega)
        have hx : x ∈ xs := List.mem_of_getElem? e1
        have ih := ih (k := j) (by omega) (h x hx)
        simp only [bodyC, Int.cast_ofNat_Int, evSs_cons, evSs_none, nxt_nx, nxt_ret, retQ_ret, retQ_nx, W_ok, W_bind, bind_ok', lift_some, cup_view, vw_non, vw_int, vw_bl, vw_str, vw_tup, vw_lst, wipeE, evS.eq_1, evS.eq_2, evS.eq_3, evS.eq_4, evS.eq_5, evS.eq_6, evS.eq_7, evS.eq_8, evS.eq_9, evS.eq_10, evS.eq_11, evE.eq_1, evE.eq_2, evE.eq_3, evE.eq_4, evE.eq_5, evE.eq_6, evE.eq_7, evE.eq_8, evE.eq_9, evE.eq_10, evE.eq_11, evE.eq_12, evE.eq_13, evE.eq_14, evE.eq_15, evE.eq_16, evE.eq_17, evE.eq_18, evE.eq_19, evEs, evO, evC, builtin.eq_1, builtin.eq_2, builtin.eq_3, builtin.eq_4, builtin.eq_5, builtin.eq_6, builtin.eq_7, builtin.eq_8, builtin.eq_9, builtin.eq_10, builtin.eq_11, builtin.eq_12, builtin.eq_13, builtin.eq_14, builtin.eq_15, builtin.eq_16, builtin.eq_17, builtin.eq_18, builtin.eq_19, builtin.eq_20, builtin.eq_21, builtin.eq_22, builtin.eq_23, builtin.eq_24, builtin.eq_25, builtin.eq_26, builtin.eq_27, builtin.eq_28, builtin.eq_29, builtin.eq_30, builtin.eq_31, builtin.eq_32, builtin.eq_33, builtin.eq_34, builtin.eq_35, builtin.eq_36, builtin.eq_37, builtin.eq_38, builtin.eq_39, builtin.eq_40, builtin.eq_41, builtin.eq_42, builtin.eq_43, binop.eq_1, binop.eq_2, binop.eq_3, binop.eq_4, binop.eq_5, binop.eq_6, binop.eq_7, binop.eq_8, binop.eq_9, binop.eq_10, binop.eq_11, binop.eq_12, cmpop.eq_1, cmpop.eq_2, cmpop.eq_3, cmpop.eq_4, cmpop.eq_5, cmpop.eq_6, cmpop.eq_7, cmpop.eq_8, cmpop.eq_9, cmpop.eq_10, cmpop.eq_11, cmpop.eq_12, cmpop.eq_13, cmpop.eq_14, cmpop.eq_15, cmpop.eq_16, cmpop.eq_17, cmpop.eq_18, cmpop.eq_19, isScalar, Tg.put.eq_1, Tg.put.eq_2, Tg.puts.eq_1, Tg.puts.eq_2, Nat.zero_le, List.set_cons_zero, List.set_cons_succ, List.getElem?_cons_zero, List.getElem?_cons_succ, List.map_cons, List.map_nil, List.cons_append, List.nil_append, List.replicate_succ, List.replicate_zero, Option.map_some, Option.map_none, Option.bind_some, if_true, if_false, Bool.not_true, Bool.not_false, Nat.sub_self, List.length_cons, List.length_nil, Bool.false_eq_true, reduceCtorEq, and_self, and_true, true_and, decide_true, decide_false, Int.reduceLT, Int.reduceLE, Int.reduceEq, Nat.reduceLeDiff, Nat.reduceAdd, eqOk_ii, eqv_ii, eqOk_ss, eqv_ss, ltOk_ii, lt_ii, l1, l2, l3, l4, Nat.zero_add, eq_self,  Bool.and_self, Bool.and_true, Bool.true_and, List.append_nil, e2, ih]
        refine fun y hy => ?_
        rcases List.mem_append.mp hy with hy | hy
        · exact h1 y hy
        · exact List.mem_singleton.mp hy
      · obtain ⟨h1, rfl⟩ := h
        have := allBl_true acc h1
        rw [this]
        (try simp only [Int.cast_ofNat_Int, evSs_cons, evSs_none, nxt_nx, nxt_ret, retQ_ret, retQ_nx, W_ok, W_bind, bind_ok', lift_some, cup_view, vw_non, vw_int, vw_bl, vw_str, vw_tup, vw_lst, wipeE, evS.eq_1, evS.eq_2, evS.eq_3, evS.eq_4, evS.eq_5, evS.eq_6, evS.eq_7, evS.eq_8, evS.eq_9, evS.eq_10, evS.eq_11, evE.eq_1, evE.eq_2, evE.eq_3, evE.eq_4, evE.eq_5, evE.eq_6, evE.eq_7, evE.eq_8, evE.eq_9, evE.eq_10, evE.eq_11, evE.eq_12, evE.eq_13, evE.eq_14, evE.eq_15, evE.eq_16, evE.eq_17, evE.eq_18, evE.eq_19, evEs, evO, evC, builtin.eq_1, builtin.eq_2, builtin.eq_3, builtin.eq_4, builtin.eq_5, builtin.eq_6, builtin.eq_7, builtin.eq_8, builtin.eq_9, builtin.eq_10, builtin.eq_11, builtin.eq_12, builtin.eq_13, builtin.eq_14, builtin.eq_15, builtin.eq_16, builtin.eq_17, builtin.eq_18, builtin.eq_19, builtin.eq_20, builtin.eq_21, builtin.eq_22, builtin.eq_23, builtin.eq_24, builtin.eq_25, builtin.eq_26, builtin.eq_27, builtin.eq_28, builtin.eq_29, builtin.eq_30, builtin.eq_31, builtin.eq_32, builtin.eq_33, builtin.eq_34, builtin.eq_35, builtin.eq_36, builtin.eq_37, builtin.eq_38, builtin.eq_39, builtin.eq_40, builtin.eq_41, builtin.eq_42, builtin.eq_43, binop.eq_1, binop.eq_2, binop.eq_3, binop.eq_4, binop.eq_5, binop.eq_6, binop.eq_7, binop.eq_8, binop.eq_9, binop.eq_10, binop.eq_11, binop.eq_12, cmpop.eq_1, cmpop.eq_2, cmpop.eq_3, cmpop.eq_4, cmpop.eq_5, cmpop.eq_6, cmpop.eq_7, cmpop.eq_8, cmpop.eq_9, cmpop.eq_10, cmpop.eq_11, cmpop.eq_12, cmpop.eq_13, cmpop.eq_14, cmpop.eq_15, cmpop.eq_16, cmpop.eq_17, cmpop.eq_18, cmpop.eq_19, isScalar, Tg.put.eq_1, Tg.put.eq_2, Tg.puts.eq_1, Tg.puts.eq_2, Nat.zero_le, List.set_cons_zero, List.set_cons_succ, List.getElem?_cons_zero, List.getElem?_cons_succ, List.map_cons, List.map_nil, List.cons_append, List.nil_append, List.replicate_succ, List.replicate_zero, Option.map_some, Option.map_none, Option.bind_some, if_true, if_false, Bool.not_true, Bool.not_false, Nat.sub_self, List.length_cons, List.length_nil, Bool.false_eq_true, reduceCtorEq, and_self, and_true, true_and, decide_true, decide_false, Int.reduceLT, Int.reduceLE, Int.reduceEq, Nat.reduceLeDiff, Nat.reduceAdd, eqOk_ii, eqv_ii, eqOk_ss, eqv_ss, ltOk_ii, lt_ii, l1, l2, l3, l4, Nat.zero_add, eq_self,  Bool.and_self, Bool.and_true, Bool.true_and, List.append_nil])
/-! ### what is alike -/
theorem plains_map {α : Type} (f : α → D) (hf : ∀ a, (f a).plain = true) : ∀ l : List α, D.plains (l.map f) = true
  | [] => rfl
  | o :: os => by rw [List.map_cons, D.plains, hf, plains_map f hf os]; rfl
theorem depths_map {α : Type} (f : α → D) (n : Nat) (hf : ∀ a, (f a).depth ≤ n) : ∀ l : List α, D.depths (l.map f) ≤ n
  | [] => by simp [D.depths]
  | o :: os => by
    have h1 := hf o
    have h2 := depths_map f n hf os
    rw [List.map_cons, D.depths]
    omega
theorem int_depth (i : Int) : (D.int i).depth ≤ 0 := by simp [D.depth]
theorem eqOk_self {d : D} (h : d.plain = true) (h2 : d.depth ≤ 60) : eqOk d d = true := by
  unfold eqOk
  rw [h]
  simp
  omega
theorem eq_self_ {d : D} (h : d.plain = true) (h2 : d.depth ≤ 60) : cmpop .eq d d = some true := by
  simp only [cmpop, eqOk_self h h2, eqv_refl d h, if_true]
theorem eq_ints (xs : List Int) : cmpop .eq (.tup (xs.map .int)) (.tup (xs.map .int)) = some true := eq_self_ (by rw [D.plain]; exact plains_map _ (fun _ => rfl) xs) (by
  have := depths_map D.int 0 int_depth xs
  rw [D.depth]; omega)
theorem nil_list (xs : List Int) : eqOk (.lst (xs.map .int)) (.lst []) = true ∧ D.eqv (.lst (xs.map .int)) (.lst []) = decide (xs = []) := by
  constructor
  · unfold eqOk
    have : min (D.lst (xs.map .int)).depth (D.lst []).depth ≤ 60 := Nat.le_trans (Nat.min_le_right _ _) (by decide)
    rw [decide_eq_true this, D.plain, plains_map _ (fun _ => rfl) xs]
    rfl
  · cases xs with
    | nil => simp [D.eqv, D.eqvs]
    | cons o os => simp [D.eqv, D.eqvs]
theorem ne_nilL (xs : List Int) : cmpop .ne (.lst (xs.map .int)) (.lst []) = some (!decide (xs = [])) := by
  simp only [cmpop, nil_list xs, if_true]
theorem eq_nilL (xs : List Int) : cmpop .eq (.lst (xs.map .int)) (.lst []) = some (decide (xs = [])) := by
  simp only [cmpop, nil_list xs, if_true]
end
end Ly

namespace LyLaw
open PySem PySem.Spec PyProof.Rows L2 Ly
def glob : Glob where
  fns := ["is_whole", "is_tuple_of", "fits_octets", "fits_rule", "need_both", "marks_in", "cuts_in", "chunks_in", "is_rule", "marks", "cuts", "chunks", "_law_cup", "_law_roll", "_law_same", "_law_some", "_law_file", "_law_rule", "_law_octets", "_law_marks", "_law_cuts", "_law_chunks", "_law_right", "law"]
  consts := [("OCTETS", (.int 5000)), ("WIDE", (.int 16)), ("BASE", (.int 263)), ("PRIME", (.int 1000003)), ("PARTS", (.int 256)), ("SIZE", (.int 512))]
  free := ["abs", "all", "bool", "enumerate", "int", "isinstance", "len", "list", "min", "range", "str", "tuple", "zip"]
def itemsL : List Item :=
[
  ⟨"is_whole", 5, ["value", "low", "high"], ["value", "low", "high"], [], false⟩,
  ⟨"is_tuple_of", 6, ["value", "low", "high"], ["value", "low", "high"], [], false⟩,
  ⟨"fits_octets", 7, ["value", "most"], ["value", "most", "one"], [], false⟩,
  ⟨"fits_rule", 15, ["value"], ["value"], [], false⟩,
  ⟨"need_both", 16, ["rule", "octets"], ["rule", "octets"], [], false⟩,
  ⟨"marks_in", 17, ["rule", "octets"], ["rule", "octets", "top", "turn", "wide", "parts", "found", "own", "at", "octet"], [6], false⟩,
  ⟨"cuts_in", 18, ["rule", "octets"], ["rule", "octets", "mark", "least", "most", "found", "begin"], [5], false⟩,
  ⟨"chunks_in", 19, ["rule", "octets"], ["rule", "octets", "cuts", "begin", "end"], [], false⟩,
  ⟨"is_rule", 20, ["value"], ["value"], [], false⟩,
  ⟨"marks", 21, ["rule", "octets"], ["rule", "octets"], [], false⟩,
  ⟨"cuts", 22, ["rule", "octets"], ["rule", "octets"], [], false⟩,
  ⟨"chunks", 23, ["rule", "octets"], ["rule", "octets"], [], false⟩,
  ⟨"_law_cup", 25, ["script"], ["script", "cell"], [], true⟩,
  ⟨"_law_roll", 26, ["cup", "many"], ["cup", "many", "deep", "found"], [], false⟩,
  ⟨"_law_same", 27, ["told", "due"], ["told", "due", "at"], [], false⟩,
  ⟨"_law_some", 28, ["cup", "things"], ["cup", "things"], [], false⟩,
  ⟨"_law_file", 29, ["cup", "most"], ["cup", "most", "base", "octet"], [], false⟩,
  ⟨"_law_rule", 30, ["cup"], ["cup", "least"], [], false⟩,
  ⟨"_law_octets", 31, ["cup", "most"], ["cup", "most", "found", "turn", "at"], [], false⟩,
  ⟨"_law_marks", 32, ["rule", "octets"], ["rule", "octets", "found", "place", "number", "octet"], [], false⟩,
  ⟨"_law_cuts", 33, ["rule", "octets"], ["rule", "octets", "found", "begin", "spots", "good", "mark"], [], false⟩,
  ⟨"_law_chunks", 34, ["rule", "octets"], ["rule", "octets", "ends", "at"], [], false⟩,
  ⟨"_law_right", 35, ["cup", "most"], ["cup", "most", "told", "whole", "chunk", "sizes", "rule", "octets", "size"], [], false⟩,
  ⟨"law", 36, ["script"], ["script", "cup", "most", "good", "odds", "due", "rule", "octets", "least", "many", "octet", "odd", "at"], [], false⟩]
abbrev body : List Stmt := PySem.Challenge.pw_layersheld_k45_whole_chunks_by_marks.main.body
def progO : Option Prog := mkProg glob body itemsL
end LyLaw

namespace LyLaw
open PySem Ly
def f_is_whole : Fn := ⟨3, 3, [
    .ret (.and_ (.bi .isInt [(.loc 0)]) (.and_ (.not_ (.bi .isBool [(.loc 0)])) (.chain .le .le (.loc 1) (.loc 0) (.loc 2))))]⟩
def f_is_tuple_of : Fn := ⟨3, 3, [
    .ret (.and_ (.bi .isTuple [(.loc 0)]) (.chain .le .le (.loc 1) (.bi .len [(.loc 0)]) (.loc 2)))]⟩
def f_fits_octets : Fn := ⟨2, 3, [
    .ret (.and_ (.call "is_tuple_of" [(.loc 0), (.cst (.int 0)), (.loc 1)]) (.bi .all [(.comp [2] (.nm 2) .ex [(.loc 0)] none (.call "is_whole" [(.loc 2), (.cst (.int 0)), (.cst (.int 255))]))]))]⟩
def f_fits_rule : Fn := ⟨1, 1, [
    .ite (.or_ (.not_ (.call "is_tuple_of" [(.loc 0), (.cst (.int 4)), (.cst (.int 4))])) (.or_ (.not_ (.call "is_whole" [(.idx (.loc 0) (.cst (.int 0))), (.cst (.int 1)), (.cst (.int 16))])) (.not_ (.call "is_whole" [(.idx (.loc 0) (.cst (.int 1))), (.cst (.int 1)), (.cst (.int 256))])))) [.ret (.cst (.bl false))] [],
    .ret (.and_ (.call "is_whole" [(.idx (.loc 0) (.cst (.int 2))), (.cst (.int 1)), (.cst (.int 512))]) (.call "is_whole" [(.idx (.loc 0) (.cst (.int 3))), (.idx (.loc 0) (.cst (.int 2))), (.cst (.int 512))]))]⟩
def f_need_both : Fn := ⟨2, 2, [
    .ite (.not_ (.call "fits_rule" [(.loc 0)])) [.never] [],
    .ite (.not_ (.call "fits_octets" [(.loc 1), (.cst (.int 5000))])) [.never] []]⟩
def f_marks_in : Fn := ⟨2, 10, [
    .asg (.tup [(.nm 4), (.nm 5)]) (.slc (.loc 0) none (some (.cst (.int 2)))),
    .asg (.nm 2) (.cst (.int 1)),
    .for_ (.nm 3) .range [(.loc 4)] [.asg (.nm 2) (.bin .mod (.bin .mul (.loc 2) (.cst (.int 263))) (.cst (.int 1000003)))],
    .asg (.tup [(.nm 6), (.nm 7)]) (.tup [(.lst []), (.cst (.int 0))]),
    .for_ (.tup [(.nm 8), (.nm 9)]) .enum [(.loc 1)] [.asg (.nm 7) (.bin .mod (.bin .add (.bin .add (.bin .mul (.loc 7) (.cst (.int 263))) (.loc 9)) (.cst (.int 1))) (.cst (.int 1000003))), .ite (.cmp .ge (.loc 8) (.loc 4)) [.asg (.nm 7) (.bin .mod (.bin .sub (.loc 7) (.bin .mul (.bin .add (.idx (.loc 1) (.bin .sub (.loc 8) (.loc 4))) (.cst (.int 1))) (.loc 2))) (.cst (.int 1000003)))] [], .ite (.and_ (.cmp .ge (.bin .add (.loc 8) (.cst (.int 1))) (.loc 4)) (.cmp .eq (.bin .mod (.loc 7) (.loc 5)) (.cst (.int 0)))) [.app 6 (.bin .add (.loc 8) (.cst (.int 1)))] []],
    .ret (.loc 6)]⟩
def f_cuts_in : Fn := ⟨2, 7, [
    .asg (.tup [(.nm 3), (.nm 4)]) (.slc (.loc 0) (some (.cst (.int 2))) none),
    .asg (.tup [(.nm 5), (.nm 6)]) (.tup [(.lst []), (.cst (.int 0))]),
    .for_ (.nm 2) .ex [(.bin .add (.call "marks_in" [(.loc 0), (.loc 1)]) (.lst [(.bi .len [(.loc 1)])]))] [.while_ (.cmp .gt (.bin .sub (.loc 2) (.loc 6)) (.loc 4)) [.asg (.nm 6) (.bin .add (.loc 6) (.loc 4)), .app 5 (.loc 6)], .ite (.cmp .ge (.bin .sub (.loc 2) (.loc 6)) (.loc 3)) [.asg (.nm 6) (.loc 2), .app 5 (.loc 6)] []],
    .ret (.ite (.cmp .eq (.loc 6) (.bi .len [(.loc 1)])) (.loc 5) (.bin .add (.loc 5) (.lst [(.bi .len [(.loc 1)])])))]⟩
def f_chunks_in : Fn := ⟨2, 5, [
    .asg (.nm 2) (.call "cuts_in" [(.loc 0), (.loc 1)]),
    .ret (.comp [3, 4] (.tup [(.nm 3), (.nm 4)]) .zip [(.bin .add (.lst [(.cst (.int 0))]) (.loc 2)), (.loc 2)] none (.slc (.loc 1) (some (.loc 3)) (some (.loc 4))))]⟩
def f_is_rule : Fn := ⟨1, 1, [
    .ret (.call "fits_rule" [(.loc 0)])]⟩
def f_marks : Fn := ⟨2, 2, [
    .ex (.call "need_both" [(.loc 0), (.loc 1)]),
    .ret (.bi .tuple [(.call "marks_in" [(.loc 0), (.loc 1)])])]⟩
def f_cuts : Fn := ⟨2, 2, [
    .ex (.call "need_both" [(.loc 0), (.loc 1)]),
    .ret (.bi .tuple [(.call "cuts_in" [(.loc 0), (.loc 1)])])]⟩
def f_chunks : Fn := ⟨2, 2, [
    .ex (.call "need_both" [(.loc 0), (.loc 1)]),
    .ret (.bi .tuple [(.call "chunks_in" [(.loc 0), (.loc 1)])])]⟩
def f__law_cup : Fn := ⟨1, 2, [
    .asg (.nm 1) (.bi .abs [(.idx (.bin .add (.bi .list [(.loc 0)]) (.lst [(.cst (.int 0))])) (.cst (.int 0)))]),
    .ret (.new [(.ite (.cmp .ge (.loc 1) (.bin .pow (.cst (.int 10)) (.cst (.int 18)))) (.bin .fdiv (.loc 1) (.cst (.int 161))) (.cst (.int 0))), (.bin .add (.bin .mod (.bi .int [(.bin .add (.bin .mul (.loc 1) (.cst (.int 425))) (.cst (.int 4577)))]) (.cst (.int 2077503101))) (.cst (.int 295)))])]⟩
def f__law_roll : Fn := ⟨2, 4, [
    .ite (.cmp .gt (.idx (.loc 0) (.cst (.int 0))) (.cst (.int 0))) [.asg (.nm 3) (.bin .mod (.bi .int [(.idx (.loc 0) (.cst (.int 0)))]) (.loc 1)), .setR (.loc 0) (.cst (.int 0)) (.bin .fdiv (.idx (.loc 0) (.cst (.int 0))) (.loc 1)), .ret (.loc 3)] [],
    .setR (.loc 0) (.cst (.int 1)) (.bin .mod (.bi .int [(.bin .add (.bin .mul (.idx (.loc 0) (.cst (.int 1))) (.cst (.int 31375))) (.cst (.int 8293)))]) (.cst (.int 2147483399))),
    .asg (.nm 2) (.bin .mod (.bi .int [(.bin .mul (.idx (.loc 0) (.cst (.int 1))) (.bin .add (.idx (.loc 0) (.cst (.int 1))) (.cst (.int 471))))]) (.cst (.int 2147483563))),
    .ret (.bin .mod (.bi .int [(.bin .fdiv (.loc 2) (.cst (.int 797)))]) (.loc 1))]⟩
def f__law_same : Fn := ⟨2, 3, [
    .ite (.bi .isTuple [(.loc 1)]) [.ite (.or_ (.not_ (.bi .isTuple [(.loc 0)])) (.cmp .ne (.bi .len [(.loc 0)]) (.bi .len [(.loc 1)]))) [.ret (.cst (.bl false))] [], .ret (.bi .all [(.comp [2] (.nm 2) .range [(.bi .len [(.loc 1)])] none (.call "_law_same" [(.idx (.loc 0) (.loc 2)), (.idx (.loc 1) (.loc 2))]))])] [],
    .ite (.cmp .is_ (.loc 1) (.cst .non)) [.ret (.cmp .is_ (.loc 0) (.cst .non))] [],
    .ite (.bi .isBool [(.loc 1)]) [.ret (.ite (.loc 1) (.cmp .is_ (.loc 0) (.cst (.bl true))) (.cmp .is_ (.loc 0) (.cst (.bl false))))] [],
    .ite (.bi .isInt [(.loc 1)]) [.ret (.and_ (.bi .isInt [(.loc 0)]) (.and_ (.not_ (.bi .isBool [(.loc 0)])) (.cmp .eq (.bi .int [(.loc 0)]) (.loc 1))))] [],
    .ret (.and_ (.bi .isStr [(.loc 0)]) (.cmp .eq (.bi .str [(.loc 0)]) (.loc 1)))]⟩
def f__law_some : Fn := ⟨2, 2, [
    .ret (.idx (.loc 1) (.call "_law_roll" [(.loc 0), (.bi .len [(.loc 1)])]))]⟩
def f__law_file : Fn := ⟨2, 4, [
    .asg (.nm 2) (.call "_law_roll" [(.loc 0), (.cst (.int 256))]),
    .ret (.bi .tuple [(.comp [3] (.nm 3) .range [(.call "_law_roll" [(.loc 0), (.bin .add (.loc 1) (.cst (.int 1)))])] none (.call "_law_some" [(.loc 0), (.lst [(.loc 2), (.loc 2), (.call "_law_roll" [(.loc 0), (.cst (.int 256))])])]))])]⟩
def f__law_rule : Fn := ⟨1, 2, [
    .asg (.nm 1) (.bin .add (.cst (.int 1)) (.call "_law_roll" [(.loc 0), (.cst (.int 6))])),
    .ret (.tup [(.bin .add (.cst (.int 1)) (.call "_law_roll" [(.loc 0), (.call "_law_some" [(.loc 0), (.lst [(.cst (.int 2)), (.cst (.int 16))])])])), (.call "_law_some" [(.loc 0), (.lst [(.cst (.int 1)), (.cst (.int 2)), (.cst (.int 4)), (.cst (.int 7))])]), (.loc 1), (.bin .add (.loc 1) (.call "_law_roll" [(.loc 0), (.call "_law_some" [(.loc 0), (.lst [(.cst (.int 1)), (.cst (.int 12))])])]))])]⟩
def f__law_octets : Fn := ⟨2, 5, [
    .asg (.nm 2) (.tup []),
    .for_ (.nm 3) .range [(.call "_law_roll" [(.loc 0), (.cst (.int 4))])] [.asg (.nm 2) (.bin .add (.loc 2) (.call "_law_some" [(.loc 0), (.lst [(.call "_law_file" [(.loc 0), (.loc 1)]), (.bin .mul (.call "_law_file" [(.loc 0), (.cst (.int 6))]) (.cst (.int 3))), (.slc (.loc 2) (some (.neg (.cst (.int 9)))) none), (.bi .tuple [(.comp [4] (.nm 4) .range [(.bin .fdiv (.loc 1) (.cst (.int 2)))] none (.call "_law_roll" [(.loc 0), (.cst (.int 256))]))])])]))],
    .ret (.slc (.loc 2) none (some (.bin .mul (.cst (.int 4)) (.loc 1))))]⟩
def f__law_marks : Fn := ⟨2, 6, [
    .asg (.nm 2) (.tup []),
    .for_ (.nm 3) .range [(.idx (.loc 0) (.cst (.int 0))), (.bin .add (.bi .len [(.loc 1)]) (.cst (.int 1)))] [.asg (.nm 4) (.cst (.int 0)), .for_ (.nm 5) .ex [(.slc (.loc 1) (some (.bin .sub (.loc 3) (.idx (.loc 0) (.cst (.int 0))))) (some (.loc 3)))] [.asg (.nm 4) (.bin .mod (.bi .int [(.bin .add (.bin .add (.bin .mul (.loc 4) (.cst (.int 263))) (.loc 5)) (.cst (.int 1)))]) (.cst (.int 1000003)))], .asg (.nm 2) (.bin .add (.loc 2) (.ite (.cmp .eq (.bin .mod (.bi .int [(.loc 4)]) (.idx (.loc 0) (.cst (.int 1)))) (.cst (.int 0))) (.tup [(.loc 3)]) (.tup [])))],
    .ret (.loc 2)]⟩
def f__law_cuts : Fn := ⟨2, 7, [
    .asg (.tup [(.nm 2), (.nm 3), (.nm 4)]) (.tup [(.tup []), (.cst (.int 0)), (.call "_law_marks" [(.loc 0), (.loc 1)])]),
    .while_ (.cmp .lt (.loc 3) (.bi .len [(.loc 1)])) [.asg (.nm 5) (.comp [6] (.nm 6) .ex [(.loc 4)] (some (.chain .le .le (.bin .add (.loc 3) (.idx (.loc 0) (.cst (.int 2)))) (.loc 6) (.bin .add (.loc 3) (.idx (.loc 0) (.cst (.int 3)))))) (.loc 6)), .asg (.nm 3) (.bi .min [(.bin .add (.ite (.cmp .ne (.loc 5) (.lst [])) (.lst [(.idx (.loc 5) (.cst (.int 0)))]) (.lst [(.bin .add (.loc 3) (.idx (.loc 0) (.cst (.int 3))))])) (.lst [(.bi .len [(.loc 1)])]))]), .asg (.nm 2) (.bin .add (.loc 2) (.tup [(.loc 3)]))],
    .ret (.loc 2)]⟩
def f__law_chunks : Fn := ⟨2, 4, [
    .asg (.nm 2) (.bin .add (.tup [(.cst (.int 0))]) (.call "_law_cuts" [(.loc 0), (.loc 1)])),
    .ret (.comp [3] (.nm 3) .range [(.bin .sub (.bi .len [(.loc 2)]) (.cst (.int 1)))] none (.slc (.loc 1) (some (.idx (.loc 2) (.loc 3))) (some (.idx (.loc 2) (.bin .add (.loc 3) (.cst (.int 1)))))))]⟩
def f__law_right : Fn := ⟨2, 9, [
    .asg (.tup [(.nm 6), (.nm 7)]) (.tup [(.call "_law_rule" [(.loc 0)]), (.call "_law_octets" [(.loc 0), (.loc 1)])]),
    .asg (.nm 2) (.tup [(.call "is_rule" [(.loc 6)]), (.call "marks" [(.loc 6), (.loc 7)]), (.call "cuts" [(.loc 6), (.loc 7)]), (.call "chunks" [(.loc 6), (.loc 7)])]),
    .ite (.not_ (.call "_law_same" [(.loc 2), (.tup [(.cst (.bl true)), (.call "_law_marks" [(.loc 6), (.loc 7)]), (.call "_law_cuts" [(.loc 6), (.loc 7)]), (.bi .tuple [(.call "_law_chunks" [(.loc 6), (.loc 7)])])])])) [.ret (.cst (.bl false))] [],
    .asg (.nm 3) (.tup []),
    .for_ (.nm 4) .ex [(.idx (.loc 2) (.cst (.int 3)))] [.asg (.nm 3) (.bin .add (.loc 3) (.loc 4))],
    .asg (.nm 5) (.comp [4] (.nm 4) .ex [(.idx (.loc 2) (.cst (.int 3)))] none (.bi .len [(.loc 4)])),
    .ret (.and_ (.cmp .eq (.loc 3) (.loc 7)) (.and_ (.cmp .eq (.comp [8] (.nm 8) .ex [(.slc (.loc 5) none (some (.neg (.cst (.int 1)))))] (some (.cmp .lt (.loc 8) (.idx (.loc 6) (.cst (.int 2))))) (.loc 8)) (.lst [])) (.cmp .eq (.comp [8] (.nm 8) .ex [(.loc 5)] (some (.not_ (.chain .le .le (.cst (.int 1)) (.loc 8) (.idx (.loc 6) (.cst (.int 3)))))) (.loc 8)) (.lst []))))]⟩
def f_law : Fn := ⟨1, 13, [
    .asg (.nm 1) (.call "_law_cup" [(.loc 0)]),
    .for_ (.nm 2) .ex [(.tup [(.cst (.int 3)), (.cst (.int 10)), (.cst (.int 30)), (.cst (.int 60))])] [.ite (.not_ (.call "_law_right" [(.loc 1), (.loc 2)])) [.ret (.cst (.bl false))] []],
    .asg (.nm 3) (.tup [(.cst (.int 4)), (.cst (.int 7)), (.cst (.int 2)), (.cst (.int 9))]),
    .asg (.nm 4) (.lst [(.cst .non), (.tup []), (.slc (.loc 3) none (some (.cst (.int 3)))), (.bin .add (.loc 3) (.tup [(.cst (.int 0))])), (.bi .list [(.loc 3)]), (.tup [(.cst (.int 0)), (.cst (.int 7)), (.cst (.int 2)), (.cst (.int 9))]), (.tup [(.cst (.int 17)), (.cst (.int 7)), (.cst (.int 2)), (.cst (.int 9))]), (.tup [(.cst (.int 4)), (.cst (.int 0)), (.cst (.int 2)), (.cst (.int 9))]), (.tup [(.cst (.int 4)), (.cst (.int 257)), (.cst (.int 2)), (.cst (.int 9))]), (.tup [(.cst (.int 4)), (.cst (.int 7)), (.cst (.int 0)), (.cst (.int 9))]), (.tup [(.cst (.int 4)), (.cst (.int 7)), (.cst (.int 10)), (.cst (.int 9))]), (.tup [(.cst (.int 4)), (.cst (.int 7)), (.cst (.int 2)), (.cst (.int 513))]), (.tup [(.cst (.bl true)), (.cst (.int 7)), (.cst (.int 2)), (.cst (.int 9))]), (.tup [(.cst (.int 4)), (.cst (.str "7")), (.cst (.int 2)), (.cst (.int 9))]), (.cst (.int 5))]),
    .ite (.cmp .ne (.comp [11] (.nm 11) .ex [(.loc 4)] (some (.cmp .isnot (.call "is_rule" [(.loc 11)]) (.cst (.bl false)))) (.loc 11)) (.lst [])) [.ret (.cst (.bl false))] [],
    .asg (.tup [(.nm 6), (.nm 7)]) (.tup [(.tup [(.cst (.int 1)), (.cst (.int 2)), (.cst (.int 2)), (.cst (.int 4))]), (.tup [(.cst (.int 3)), (.cst (.int 0)), (.cst (.int 5)), (.cst (.int 2)), (.cst (.int 9)), (.cst (.int 9)), (.cst (.int 9)), (.cst (.int 9)), (.cst (.int 9)), (.cst (.int 1)), (.cst (.int 4))])]),
    .ite (.not_ (.call "_law_same" [(.tup [(.call "marks" [(.loc 6), (.loc 7)]), (.call "cuts" [(.loc 6), (.loc 7)])]), (.tup [(.tup [(.cst (.int 1)), (.cst (.int 3)), (.cst (.int 5)), (.cst (.int 6)), (.cst (.int 7)), (.cst (.int 8)), (.cst (.int 9)), (.cst (.int 10))]), (.tup [(.cst (.int 3)), (.cst (.int 5)), (.cst (.int 7)), (.cst (.int 9)), (.cst (.int 11))])])])) [.ret (.cst (.bl false))] [],
    .asg (.tup [(.nm 8), (.nm 9), (.nm 10)]) (.tup [(.bin .add (.cst (.int 1)) (.call "_law_roll" [(.loc 1), (.cst (.int 512))])), (.call "_law_roll" [(.loc 1), (.cst (.int 2000))]), (.call "_law_roll" [(.loc 1), (.cst (.int 256))])]),
    .asg (.nm 5) (.bi .tuple [(.comp [12] (.nm 12) .range [(.bin .fdiv (.bin .sub (.bin .add (.loc 9) (.loc 8)) (.cst (.int 1))) (.loc 8))] none (.bi .min [(.loc 9), (.bin .mul (.loc 8) (.bin .add (.loc 12) (.cst (.int 1))))]))]),
    .ret (.and_ (.call "_law_same" [(.call "cuts" [(.tup [(.cst (.int 1)), (.cst (.int 1)), (.loc 8), (.cst (.int 512))]), (.bin .mul (.tup [(.loc 10)]) (.loc 9))]), (.loc 5)]) (.call "_law_same" [(.call "marks" [(.tup [(.cst (.int 16)), (.cst (.int 1)), (.cst (.int 1)), (.cst (.int 1))]), (.bin .mul (.tup [(.loc 10)]) (.cst (.int 15)))]), (.tup [])]))]⟩
def prog : Prog := [
  ("is_whole", f_is_whole),
  ("is_tuple_of", f_is_tuple_of),
  ("fits_octets", f_fits_octets),
  ("fits_rule", f_fits_rule),
  ("need_both", f_need_both),
  ("marks_in", f_marks_in),
  ("cuts_in", f_cuts_in),
  ("chunks_in", f_chunks_in),
  ("is_rule", f_is_rule),
  ("marks", f_marks),
  ("cuts", f_cuts),
  ("chunks", f_chunks),
  ("_law_cup", f__law_cup),
  ("_law_roll", f__law_roll),
  ("_law_same", f__law_same),
  ("_law_some", f__law_some),
  ("_law_file", f__law_file),
  ("_law_rule", f__law_rule),
  ("_law_octets", f__law_octets),
  ("_law_marks", f__law_marks),
  ("_law_cuts", f__law_cuts),
  ("_law_chunks", f__law_chunks),
  ("_law_right", f__law_right),
  ("law", f_law)]


end LyLaw
namespace LyLaw
open PySem Ly
/-! ### k45: the plain facts -/
abbrev PRm : Int := 1000003
def hh (xs : List Int) : Int := xs.foldl (fun a o => a * 263 + o + 1) 0
def hs (a : Int) (xs : List Int) : Int := xs.foldl (fun a o => (a * 263 + o + 1) % PRm) a
def win (os : List Int) (w p : Nat) : List Int := (os.take p).drop (p - w)
theorem hh_snoc (xs : List Int) (o : Int) : hh (xs ++ [o]) = hh xs * 263 + o + 1 := by unfold hh; rw [List.foldl_append]; rfl
theorem hs_snoc (a : Int) (xs : List Int) (o : Int) : hs a (xs ++ [o]) = (hs a xs * 263 + o + 1) % PRm := by unfold hs; rw [List.foldl_append]; rfl
theorem hh_foldl : ∀ (xs : List Int) (a : Int), xs.foldl (fun a o => a * 263 + o + 1) a = a * 263 ^ xs.length + hh xs
  | [], a => by simp [hh]
  | x :: xs, a => by
    have h1 := hh_foldl xs (a * 263 + x + 1)
    have h2 := hh_foldl xs (0 * 263 + x + 1)
    rw [List.foldl_cons, h1]
    unfold hh at *
    rw [List.foldl_cons, h2, List.length_cons, Int.pow_succ]
    generalize (263 : Int) ^ xs.length = q
    have e : (a * 263 + x + 1) * q = a * (q * 263) + (0 * 263 + x + 1) * q := by
      rw [show a * 263 + x + 1 = a * 263 + (0 * 263 + x + 1) by omega, Int.add_mul, Int.mul_assoc, Int.mul_comm 263 q]
    omega
theorem hh_cons (x : Int) (xs : List Int) : hh (x :: xs) = (x + 1) * 263 ^ xs.length + hh xs := by
  have := hh_foldl xs (0 * 263 + x + 1)
  unfold hh at *
  rw [List.foldl_cons, this]
  congr 2
  omega
theorem m_add (a b : Int) : (a % PRm + b) % PRm = (a + b) % PRm := Int.emod_add_emod a PRm b
theorem hs_hh : ∀ (xs : List Int), hs 0 xs = hh xs % PRm := by
  intro xs
  rw [← List.reverse_reverse xs]
  induction xs.reverse with
  | nil => rfl
  | cons o ys ih =>
    rw [List.reverse_cons, hs_snoc, hh_snoc, ih]
    show _ % PRm = _ % PRm
    generalize hh ys.reverse = z
    unfold PRm
    omega
theorem win_len (os : List Int) (w p : Nat) (h : p ≤ os.length) : (win os w p).length = min w p := by
  unfold win
  rw [List.length_drop, List.length_take]
  omega
theorem take_snoc {os : List Int} {i : Nat} {o : Int} (h : os[i]? = some o) : os.take (i + 1) = os.take i ++ [o] := by
  rw [List.take_add_one, h]
  rfl
theorem win_lo {os : List Int} {w i : Nat} {o : Int} (h : os[i]? = some o) (hi : i < w) : win os w (i + 1) = win os w i ++ [o] := by
  unfold win
  rw [show i + 1 - w = 0 by omega, show i - w = 0 by omega, List.drop_zero, List.drop_zero, take_snoc h]
theorem win_hi {os : List Int} {w i : Nat} {o : Int} (h : os[i]? = some o) (hw : 1 ≤ w) (hi : w ≤ i) : ∃ x r, os[i - w]? = some x ∧ win os w i = x :: r ∧ win os w (i + 1) = r ++ [o] ∧ r.length + 1 = w := by
  have hl : i < os.length := (List.getElem?_eq_some_iff.mp h).1
  have hx : i - w < os.length := by omega
  have e : win os w i = os[i - w] :: (os.take i).drop (i - w + 1) := by
    unfold win
    rw [List.drop_eq_getElem_cons (by rw [List.length_take]; omega)]
    rw [List.getElem_take]
  refine ⟨os[i - w], (os.take i).drop (i - w + 1), List.getElem?_eq_getElem hx, e, ?_, ?_⟩
  · unfold win
    rw [take_snoc h, show i + 1 - w = i - w + 1 by omega, List.drop_append_of_le_length (by rw [List.length_take]; omega)]
  · rw [List.length_drop, List.length_take]
    omega
theorem roll_lo {os : List Int} {w i : Nat} {o : Int} (h : os[i]? = some o) (hi : i < w) : (hs 0 (win os w i) * 263 + o + 1) % PRm = hs 0 (win os w (i + 1)) := by
  rw [win_lo h hi, hs_snoc]
theorem roll_hi {os : List Int} {w i : Nat} {o x : Int} (h : os[i]? = some o) (hw : 1 ≤ w) (hi : w ≤ i) (hx : os[i - w]? = some x) : ((hs 0 (win os w i) * 263 + o + 1) % PRm - (x + 1) * (263 ^ w % PRm)) % PRm = hs 0 (win os w (i + 1)) := by
  obtain ⟨x', r, h1, h2, h3, h4⟩ := win_hi h hw hi
  rw [hx] at h1
  cases h1
  rw [h3, h2, hs_hh, hs_hh, hh_snoc, hh_cons, ← h4, Int.pow_succ]
  generalize (263 : Int) ^ r.length = q
  generalize hh r = z
  have e1 : ((x + 1) * (q * 263 % PRm)) % PRm = ((x + 1) * q * 263) % PRm := by rw [Int.mul_emod, Int.emod_emod, ← Int.mul_emod, Int.mul_assoc]
  generalize (x + 1) * (q * 263 % PRm) = u at *
  generalize (x + 1) * q = v at *
  unfold PRm at *
  omega
/-- a place that is a mark -/
def isMk (os : List Int) (w d p : Nat) : Bool := decide (hs 0 (win os w p) % (d : Int) = 0)
/-- the marks up to a place -/
def mks (os : List Int) (w d i : Nat) : List Nat := (List.range (i + 1)).filter fun p => decide (w ≤ p) && isMk os w d p
theorem mks_succ (os : List Int) (w d i : Nat) : mks os w d (i + 1) = mks os w d i ++ (if w ≤ i + 1 ∧ isMk os w d (i + 1) = true then [i + 1] else []) := by
  unfold mks
  rw [List.range_succ, List.filter_append]
  congr 1
  simp only [List.filter_cons, List.filter_nil, Bool.and_eq_true, decide_eq_true_eq]
theorem mks_zero (os : List Int) {w : Nat} (d : Nat) (h : 1 ≤ w) : mks os w d 0 = [] := by
  unfold mks
  rw [show List.range (0 + 1) = [0] by rfl]
  simp
  omega
theorem mks_range (os : List Int) (w d n : Nat) : mks os w d n = ((List.range (n + 1 - w)).map (w + ·)).filter (isMk os w d) := by
  unfold mks
  by_cases h : w ≤ n + 1
  · conv => lhs; rw [show n + 1 = w + (n + 1 - w) by omega]
    rw [List.range_add, List.filter_append]
    rw [List.filter_eq_nil_iff.mpr (fun p hp => by
      have := List.mem_range.mp hp
      simp
      intro
      omega), List.nil_append]
    refine List.filter_congr fun p hp => ?_
    obtain ⟨a, _, rfl⟩ := List.mem_map.mp hp
    simp
  · rw [show n + 1 - w = 0 by omega]
    simp only [List.range_zero, List.map_nil, List.filter_nil]
    refine List.filter_eq_nil_iff.mpr fun p hp => ?_
    have := List.mem_range.mp hp
    simp
    intro
    omega
theorem mks_le {os : List Int} {w d n x : Nat} (h : x ∈ mks os w d n) : x ≤ n := by
  unfold mks at h
  have := List.mem_range.mp (List.mem_filter.mp h).1
  omega
theorem mks_sorted (os : List Int) (w d n : Nat) : (mks os w d n).Pairwise (· ≤ ·) := by
  unfold mks
  refine List.Pairwise.filter _ ?_
  exact List.Pairwise.imp (fun h => Nat.le_of_lt h) List.pairwise_lt_range
/-! cuts -/
section
variable (L : List Nat) (n l m : Nat)
def hits (b : Nat) : List Nat := L.filter fun x => decide (b + l ≤ x) && decide (x ≤ b + m)
def nxc (b : Nat) : Nat := min ((hits L l m b).head?.getD (b + m)) n
def GG (b : Nat) : List Nat := if h : b < n ∧ b < nxc L n l m b then nxc L n l m b :: GG (nxc L n l m b) else []
termination_by n - b
end
section
variable {L : List Nat} {n l m : Nat}
theorem hit_mem {b x : Nat} (h : x ∈ hits L l m b) : x ∈ L ∧ b + l ≤ x ∧ x ≤ b + m := by
  obtain ⟨h1, h2⟩ := List.mem_filter.mp h
  simp only [Bool.and_eq_true, decide_eq_true_eq] at h2
  exact ⟨h1, h2⟩
theorem nxc_cases (b : Nat) : nxc L n l m b = min (b + m) n ∨ ∃ x ∈ L, b + l ≤ x ∧ x ≤ b + m ∧ nxc L n l m b = min x n := by
  unfold nxc
  cases e : hits L l m b with
  | nil => exact .inl rfl
  | cons x r =>
    have := hit_mem (L := L) (l := l) (m := m) (b := b) (x := x) (by rw [e]; exact List.mem_cons_self)
    exact .inr ⟨x, this.1, this.2.1, this.2.2, rfl⟩
theorem nxc_gt {b : Nat} (h1 : 1 ≤ l) (h2 : l ≤ m) (h : b < n) : b < nxc L n l m b ∧ nxc L n l m b ≤ n ∧ nxc L n l m b ≤ b + m ∧ (nxc L n l m b < n → b + l ≤ nxc L n l m b) := by
  rcases nxc_cases (L := L) (n := n) (l := l) (m := m) b with e | ⟨x, _, g1, g2, e⟩ <;> rw [e] <;> omega
theorem GG_lt {b : Nat} (h1 : 1 ≤ l) (h2 : l ≤ m) (h : b < n) : GG L n l m b = nxc L n l m b :: GG L n l m (nxc L n l m b) := by
  rw [GG, dif_pos ⟨h, (nxc_gt h1 h2 h).1⟩]
theorem GG_ge {b : Nat} (h : n ≤ b) : GG L n l m b = [] := by
  rw [GG, dif_neg (by omega)]
/-- nothing to be hit: the widest step -/
theorem nxc_none {b : Nat} (h : ∀ x ∈ L, x < b + l ∨ b + m < x) : nxc L n l m b = min (b + m) n := by
  unfold nxc
  rw [show hits L l m b = [] from List.filter_eq_nil_iff.mpr fun x hx => by
    have := h x hx
    simp only [Bool.and_eq_true, decide_eq_true_eq]
    omega]
  rfl
theorem nxc_hit {b x : Nat} {pre suf : List Nat} (e : L = pre ++ x :: suf) (h : ∀ y ∈ pre, y < b + l) (h1 : b + l ≤ x) (h2 : x ≤ b + m) : nxc L n l m b = min x n := by
  unfold nxc
  have : hits L l m b = x :: hits suf l m b := by
    subst e
    unfold hits
    rw [List.filter_append, List.filter_eq_nil_iff.mpr (fun y hy => by have := h y hy; simp only [Bool.and_eq_true, decide_eq_true_eq]; omega), List.nil_append, List.filter_cons, if_pos (by simp; omega)]
  rw [this]
  rfl
theorem nxc_last {ms : List Nat} (b : Nat) : nxc (ms ++ [n]) n l m b = nxc ms n l m b := by
  unfold nxc hits
  rw [List.filter_append]
  cases e : List.filter (fun x => decide (b + l ≤ x) && decide (x ≤ b + m)) ms with
  | cons x r => rfl
  | nil =>
    rw [List.nil_append, List.filter_cons]
    split
    · rename_i h
      simp only [Bool.and_eq_true, decide_eq_true_eq] at h
      show min n n = min (b + m) n
      omega
    · rfl
end
/-! chunks -/
def piece (os : List Int) (a b : Nat) : List Int := (os.drop a).take (b - a)
def chs (os : List Int) (b : Nat) : List Nat → List (List Int)
  | [] => []
  | c :: cs => piece os b c :: chs os c cs
section
variable {L : List Nat} {n l m : Nat} {os : List Int}
theorem GG_le (h1 : 1 ≤ l) (h2 : l ≤ m) : ∀ (k b : Nat), n - b ≤ k → ∀ c ∈ GG L n l m b, c ≤ n
  | k, b, hk, c, hc => by
    by_cases h : b < n
    · rw [GG_lt h1 h2 h] at hc
      have g := nxc_gt (L := L) h1 h2 h
      rcases List.mem_cons.mp hc with rfl | hc
      · exact g.2.1
      · cases k with
        | zero => omega
        | succ k => exact GG_le h1 h2 k _ (by omega) c hc
    · rw [GG_ge (by omega)] at hc
      cases hc
theorem GG_len (h1 : 1 ≤ l) (h2 : l ≤ m) : ∀ (k b : Nat), n - b ≤ k → (GG L n l m b).length ≤ n - b
  | k, b, hk => by
    by_cases h : b < n
    · rw [GG_lt h1 h2 h]
      have g := nxc_gt (L := L) h1 h2 h
      cases k with
      | zero => omega
      | succ k =>
        have := GG_len h1 h2 k (nxc L n l m b) (by omega)
        rw [List.length_cons]
        omega
    · rw [GG_ge (by omega)]
      simp
theorem chs_flat (h1 : 1 ≤ l) (h2 : l ≤ m) (hn : n = os.length) : ∀ (k b : Nat), n - b ≤ k → (chs os b (GG L n l m b)).flatten = os.drop b
  | k, b, hk => by
    by_cases h : b < n
    · rw [GG_lt h1 h2 h]
      have g := nxc_gt (L := L) h1 h2 h
      cases k with
      | zero => omega
      | succ k =>
        have ih := chs_flat h1 h2 hn k (nxc L n l m b) (by omega)
        rw [chs, List.flatten_cons, ih]
        unfold piece
        have e : os.drop (nxc L n l m b) = (os.drop b).drop (nxc L n l m b - b) := by rw [List.drop_drop]; congr 1; omega
        rw [e, List.take_append_drop]
    · rw [GG_ge (by omega), List.drop_eq_nil_of_le (by omega)]
      rfl
theorem piece_len {a b : Nat} (h : a ≤ b) (hb : b ≤ os.length) : (piece os a b).length = b - a := by
  unfold piece
  rw [List.length_take, List.length_drop]
  omega
theorem chs_sizes (h1 : 1 ≤ l) (h2 : l ≤ m) (hn : n = os.length) : ∀ (k b : Nat), n - b ≤ k → (∀ c ∈ chs os b (GG L n l m b), 1 ≤ c.length ∧ c.length ≤ m) ∧ (∀ c ∈ (chs os b (GG L n l m b)).dropLast, l ≤ c.length)
  | k, b, hk => by
    by_cases h : b < n
    · rw [GG_lt h1 h2 h]
      have g := nxc_gt (L := L) h1 h2 h
      cases k with
      | zero => omega
      | succ k =>
        have ih := chs_sizes h1 h2 hn k (nxc L n l m b) (by omega)
        have hl := piece_len (os := os) (a := b) (b := nxc L n l m b) (by omega) (by omega)
        rw [chs]
        refine ⟨fun c hc => ?_, fun c hc => ?_⟩
        · rcases List.mem_cons.mp hc with rfl | hc
          · rw [hl]; omega
          · exact ih.1 c hc
        · by_cases hg : nxc L n l m b < n
          · rw [GG_lt h1 h2 hg, chs, List.dropLast_cons_of_ne_nil (by simp)] at hc
            rw [GG_lt h1 h2 hg, chs] at ih
            rcases List.mem_cons.mp hc with rfl | hc
            · rw [hl]; have := g.2.2.2 hg; omega
            · exact ih.2 c hc
          · rw [GG_ge (by omega), chs] at hc
            simp at hc
    · rw [GG_ge (by omega)]
      exact ⟨fun c hc => by simp [chs] at hc, fun c hc => by simp [chs] at hc⟩
end
theorem rl : rollOk prog := ⟨_, _, _, _, _, _, rfl, by decide +kernel⟩
theorem sm : prog.lookup ("_law_some" : Str) = some someF := rfl
/-- a rule that fits -/
structure Ru where
  w : Nat
  d : Nat
  l : Nat
  m : Nat
structure Ru.Ok (r : Ru) : Prop where
  w1 : 1 ≤ r.w
  w2 : r.w ≤ 16
  d1 : 1 ≤ r.d
  d2 : r.d ≤ 256
  l1 : 1 ≤ r.l
  l2 : r.l ≤ 512
  m1 : r.l ≤ r.m
  m2 : r.m ≤ 512
def Ru.D (r : Ru) : D := .tup [.int r.w, .int r.d, .int r.l, .int r.m]
def oD (os : List Int) : D := .tup (os.map .int)
def nD (ns : List Nat) : List D := ns.map fun (n : Nat) => .int (n : Int)
section
variable {k : Nat} {S : Sto}
theorem r_is_whole (hk : 1 ≤ k) (v a b : Int) : callP prog k "is_whole" [.int v, .int a, .int b] S = .ok (.bl (decide (a ≤ v) && decide (v ≤ b))) S := by
  apply W.eq
  refine W_call hk rfl rfl fun j _ => ?_
  by_cases h : a ≤ v
  · simp only [f_is_whole, Int.cast_ofNat_Int, evSs_cons, evSs_none, nxt_nx, nxt_ret, retQ_ret, retQ_nx, W_ok, W_bind, bind_ok', lift_some, cup_view, vw_non, vw_int, vw_bl, vw_str, vw_tup, vw_lst, wipeE, evS.eq_1, evS.eq_2, evS.eq_3, evS.eq_4, evS.eq_5, evS.eq_6, evS.eq_7, evS.eq_8, evS.eq_9, evS.eq_10, evS.eq_11, evE.eq_1, evE.eq_2, evE.eq_3, evE.eq_4, evE.eq_5, evE.eq_6, evE.eq_7, evE.eq_8, evE.eq_9, evE.eq_10, evE.eq_11, evE.eq_12, evE.eq_13, evE.eq_14, evE.eq_15, evE.eq_16, evE.eq_17, evE.eq_18, evE.eq_19, evEs, evO, evC, builtin.eq_1, builtin.eq_2, builtin.eq_3, builtin.eq_4, builtin.eq_5, builtin.eq_6, builtin.eq_7, builtin.eq_8, builtin.eq_9, builtin.eq_10, builtin.eq_11, builtin.eq_12, builtin.eq_13, builtin.eq_14, builtin.eq_15, builtin.eq_16, builtin.eq_17, builtin.eq_18, builtin.eq_19, builtin.eq_20, builtin.eq_21, builtin.eq_22, builtin.eq_23, builtin.eq_24, builtin.eq_25, builtin.eq_26, builtin.eq_27, builtin.eq_28, builtin.eq_29, builtin.eq_30, builtin.eq_31, builtin.eq_32, builtin.eq_33, builtin.eq_34, builtin.eq_35, builtin.eq_36, builtin.eq_37, builtin.eq_38, builtin.eq_39, builtin.eq_40, builtin.eq_41, builtin.eq_42, builtin.eq_43, binop.eq_1, binop.eq_2, binop.eq_3, binop.eq_4, binop.eq_5, binop.eq_6, binop.eq_7, binop.eq_8, binop.eq_9, binop.eq_10, binop.eq_11, binop.eq_12, cmpop.eq_1, cmpop.eq_2, cmpop.eq_3, cmpop.eq_4, cmpop.eq_5, cmpop.eq_6, cmpop.eq_7, cmpop.eq_8, cmpop.eq_9, cmpop.eq_10, cmpop.eq_11, cmpop.eq_12, cmpop.eq_13, cmpop.eq_14, cmpop.eq_15, cmpop.eq_16, cmpop.eq_17, cmpop.eq_18, cmpop.eq_19, isScalar, Tg.put.eq_1, Tg.put.eq_2, Tg.puts.eq_1, Tg.puts.eq_2, Nat.zero_le, List.set_cons_zero, List.set_cons_succ, List.getElem?_cons_zero, List.getElem?_cons_succ, List.map_cons, List.map_nil, List.cons_append, List.nil_append, List.replicate_succ, List.replicate_zero, Option.map_some, Option.map_none, Option.bind_some, if_true, if_false, Bool.not_true, Bool.not_false, Nat.sub_self, List.length_cons, List.length_nil, Bool.false_eq_true, reduceCtorEq, and_self, and_true, true_and, decide_true, decide_false, Int.reduceLT, Int.reduceLE, Int.reduceEq, Nat.reduceLeDiff, Nat.reduceAdd, eqOk_ii, eqv_ii, eqOk_ss, eqv_ss, ltOk_ii, lt_ii, l1, l2, l3, l4, Nat.zero_add, eq_self,  Bool.and_self, Bool.and_true, Bool.true_and, List.append_nil, h]
  · simp only [f_is_whole, Int.cast_ofNat_Int, evSs_cons, evSs_none, nxt_nx, nxt_ret, retQ_ret, retQ_nx, W_ok, W_bind, bind_ok', lift_some, cup_view, vw_non, vw_int, vw_bl, vw_str, vw_tup, vw_lst, wipeE, evS.eq_1, evS.eq_2, evS.eq_3, evS.eq_4, evS.eq_5, evS.eq_6, evS.eq_7, evS.eq_8, evS.eq_9, evS.eq_10, evS.eq_11, evE.eq_1, evE.eq_2, evE.eq_3, evE.eq_4, evE.eq_5, evE.eq_6, evE.eq_7, evE.eq_8, evE.eq_9, evE.eq_10, evE.eq_11, evE.eq_12, evE.eq_13, evE.eq_14, evE.eq_15, evE.eq_16, evE.eq_17, evE.eq_18, evE.eq_19, evEs, evO, evC, builtin.eq_1, builtin.eq_2, builtin.eq_3, builtin.eq_4, builtin.eq_5, builtin.eq_6, builtin.eq_7, builtin.eq_8, builtin.eq_9, builtin.eq_10, builtin.eq_11, builtin.eq_12, builtin.eq_13, builtin.eq_14, builtin.eq_15, builtin.eq_16, builtin.eq_17, builtin.eq_18, builtin.eq_19, builtin.eq_20, builtin.eq_21, builtin.eq_22, builtin.eq_23, builtin.eq_24, builtin.eq_25, builtin.eq_26, builtin.eq_27, builtin.eq_28, builtin.eq_29, builtin.eq_30, builtin.eq_31, builtin.eq_32, builtin.eq_33, builtin.eq_34, builtin.eq_35, builtin.eq_36, builtin.eq_37, builtin.eq_38, builtin.eq_39, builtin.eq_40, builtin.eq_41, builtin.eq_42, builtin.eq_43, binop.eq_1, binop.eq_2, binop.eq_3, binop.eq_4, binop.eq_5, binop.eq_6, binop.eq_7, binop.eq_8, binop.eq_9, binop.eq_10, binop.eq_11, binop.eq_12, cmpop.eq_1, cmpop.eq_2, cmpop.eq_3, cmpop.eq_4, cmpop.eq_5, cmpop.eq_6, cmpop.eq_7, cmpop.eq_8, cmpop.eq_9, cmpop.eq_10, cmpop.eq_11, cmpop.eq_12, cmpop.eq_13, cmpop.eq_14, cmpop.eq_15, cmpop.eq_16, cmpop.eq_17, cmpop.eq_18, cmpop.eq_19, isScalar, Tg.put.eq_1, Tg.put.eq_2, Tg.puts.eq_1, Tg.puts.eq_2, Nat.zero_le, List.set_cons_zero, List.set_cons_succ, List.getElem?_cons_zero, List.getElem?_cons_succ, List.map_cons, List.map_nil, List.cons_append, List.nil_append, List.replicate_succ, List.replicate_zero, Option.map_some, Option.map_none, Option.bind_some, if_true, if_false, Bool.not_true, Bool.not_false, Nat.sub_self, List.length_cons, List.length_nil, Bool.false_eq_true, reduceCtorEq, and_self, and_true, true_and, decide_true, decide_false, Int.reduceLT, Int.reduceLE, Int.reduceEq, Nat.reduceLeDiff, Nat.reduceAdd, eqOk_ii, eqv_ii, eqOk_ss, eqv_ss, ltOk_ii, lt_ii, l1, l2, l3, l4, Nat.zero_add, eq_self,  Bool.and_self, Bool.and_true, Bool.true_and, List.append_nil, h, Bool.false_and]
theorem r_is_tuple_of (hk : 1 ≤ k) (xs : List D) (a b : Int) : callP prog k "is_tuple_of" [.tup xs, .int a, .int b] S = .ok (.bl (decide (a ≤ (xs.length : Nat)) && decide (((xs.length : Nat) : Int) ≤ b))) S := by
  apply W.eq
  refine W_call hk rfl rfl fun j _ => ?_
  by_cases h : a ≤ (xs.length : Nat)
  · simp only [f_is_tuple_of, Int.cast_ofNat_Int, evSs_cons, evSs_none, nxt_nx, nxt_ret, retQ_ret, retQ_nx, W_ok, W_bind, bind_ok', lift_some, cup_view, vw_non, vw_int, vw_bl, vw_str, vw_tup, vw_lst, wipeE, evS.eq_1, evS.eq_2, evS.eq_3, evS.eq_4, evS.eq_5, evS.eq_6, evS.eq_7, evS.eq_8, evS.eq_9, evS.eq_10, evS.eq_11, evE.eq_1, evE.eq_2, evE.eq_3, evE.eq_4, evE.eq_5, evE.eq_6, evE.eq_7, evE.eq_8, evE.eq_9, evE.eq_10, evE.eq_11, evE.eq_12, evE.eq_13, evE.eq_14, evE.eq_15, evE.eq_16, evE.eq_17, evE.eq_18, evE.eq_19, evEs, evO, evC, builtin.eq_1, builtin.eq_2, builtin.eq_3, builtin.eq_4, builtin.eq_5, builtin.eq_6, builtin.eq_7, builtin.eq_8, builtin.eq_9, builtin.eq_10, builtin.eq_11, builtin.eq_12, builtin.eq_13, builtin.eq_14, builtin.eq_15, builtin.eq_16, builtin.eq_17, builtin.eq_18, builtin.eq_19, builtin.eq_20, builtin.eq_21, builtin.eq_22, builtin.eq_23, builtin.eq_24, builtin.eq_25, builtin.eq_26, builtin.eq_27, builtin.eq_28, builtin.eq_29, builtin.eq_30, builtin.eq_31, builtin.eq_32, builtin.eq_33, builtin.eq_34, builtin.eq_35, builtin.eq_36, builtin.eq_37, builtin.eq_38, builtin.eq_39, builtin.eq_40, builtin.eq_41, builtin.eq_42, builtin.eq_43, binop.eq_1, binop.eq_2, binop.eq_3, binop.eq_4, binop.eq_5, binop.eq_6, binop.eq_7, binop.eq_8, binop.eq_9, binop.eq_10, binop.eq_11, binop.eq_12, cmpop.eq_1, cmpop.eq_2, cmpop.eq_3, cmpop.eq_4, cmpop.eq_5, cmpop.eq_6, cmpop.eq_7, cmpop.eq_8, cmpop.eq_9, cmpop.eq_10, cmpop.eq_11, cmpop.eq_12, cmpop.eq_13, cmpop.eq_14, cmpop.eq_15, cmpop.eq_16, cmpop.eq_17, cmpop.eq_18, cmpop.eq_19, isScalar, Tg.put.eq_1, Tg.put.eq_2, Tg.puts.eq_1, Tg.puts.eq_2, Nat.zero_le, List.set_cons_zero, List.set_cons_succ, List.getElem?_cons_zero, List.getElem?_cons_succ, List.map_cons, List.map_nil, List.cons_append, List.nil_append, List.replicate_succ, List.replicate_zero, Option.map_some, Option.map_none, Option.bind_some, if_true, if_false, Bool.not_true, Bool.not_false, Nat.sub_self, List.length_cons, List.length_nil, Bool.false_eq_true, reduceCtorEq, and_self, and_true, true_and, decide_true, decide_false, Int.reduceLT, Int.reduceLE, Int.reduceEq, Nat.reduceLeDiff, Nat.reduceAdd, eqOk_ii, eqv_ii, eqOk_ss, eqv_ss, ltOk_ii, lt_ii, l1, l2, l3, l4, Nat.zero_add, eq_self,  Bool.and_self, Bool.and_true, Bool.true_and, List.append_nil, h]
  · simp only [f_is_tuple_of, Int.cast_ofNat_Int, evSs_cons, evSs_none, nxt_nx, nxt_ret, retQ_ret, retQ_nx, W_ok, W_bind, bind_ok', lift_some, cup_view, vw_non, vw_int, vw_bl, vw_str, vw_tup, vw_lst, wipeE, evS.eq_1, evS.eq_2, evS.eq_3, evS.eq_4, evS.eq_5, evS.eq_6, evS.eq_7, evS.eq_8, evS.eq_9, evS.eq_10, evS.eq_11, evE.eq_1, evE.eq_2, evE.eq_3, evE.eq_4, evE.eq_5, evE.eq_6, evE.eq_7, evE.eq_8, evE.eq_9, evE.eq_10, evE.eq_11, evE.eq_12, evE.eq_13, evE.eq_14, evE.eq_15, evE.eq_16, evE.eq_17, evE.eq_18, evE.eq_19, evEs, evO, evC, builtin.eq_1, builtin.eq_2, builtin.eq_3, builtin.eq_4, builtin.eq_5, builtin.eq_6, builtin.eq_7, builtin.eq_8, builtin.eq_9, builtin.eq_10, builtin.eq_11, builtin.eq_12, builtin.eq_13, builtin.eq_14, builtin.eq_15, builtin.eq_16, builtin.eq_17, builtin.eq_18, builtin.eq_19, builtin.eq_20, builtin.eq_21, builtin.eq_22, builtin.eq_23, builtin.eq_24, builtin.eq_25, builtin.eq_26, builtin.eq_27, builtin.eq_28, builtin.eq_29, builtin.eq_30, builtin.eq_31, builtin.eq_32, builtin.eq_33, builtin.eq_34, builtin.eq_35, builtin.eq_36, builtin.eq_37, builtin.eq_38, builtin.eq_39, builtin.eq_40, builtin.eq_41, builtin.eq_42, builtin.eq_43, binop.eq_1, binop.eq_2, binop.eq_3, binop.eq_4, binop.eq_5, binop.eq_6, binop.eq_7, binop.eq_8, binop.eq_9, binop.eq_10, binop.eq_11, binop.eq_12, cmpop.eq_1, cmpop.eq_2, cmpop.eq_3, cmpop.eq_4, cmpop.eq_5, cmpop.eq_6, cmpop.eq_7, cmpop.eq_8, cmpop.eq_9, cmpop.eq_10, cmpop.eq_11, cmpop.eq_12, cmpop.eq_13, cmpop.eq_14, cmpop.eq_15, cmpop.eq_16, cmpop.eq_17, cmpop.eq_18, cmpop.eq_19, isScalar, Tg.put.eq_1, Tg.put.eq_2, Tg.puts.eq_1, Tg.puts.eq_2, Nat.zero_le, List.set_cons_zero, List.set_cons_succ, List.getElem?_cons_zero, List.getElem?_cons_succ, List.map_cons, List.map_nil, List.cons_append, List.nil_append, List.replicate_succ, List.replicate_zero, Option.map_some, Option.map_none, Option.bind_some, if_true, if_false, Bool.not_true, Bool.not_false, Nat.sub_self, List.length_cons, List.length_nil, Bool.false_eq_true, reduceCtorEq, and_self, and_true, true_and, decide_true, decide_false, Int.reduceLT, Int.reduceLE, Int.reduceEq, Nat.reduceLeDiff, Nat.reduceAdd, eqOk_ii, eqv_ii, eqOk_ss, eqv_ss, ltOk_ii, lt_ii, l1, l2, l3, l4, Nat.zero_add, eq_self,  Bool.and_self, Bool.and_true, Bool.true_and, List.append_nil, h, Bool.false_and]
theorem r_fits_octets (hk : 2 ≤ k) {os : List Int} (ho : Oct os) (hl : os.length ≤ 5000) : callP prog k "fits_octets" [oD os, .int 5000] S = .ok (.bl true) S := by
  apply W.eq
  refine W_call (by omega) rfl rfl fun j hj => ?_
  have h1 : ((os.length : Nat) : Int) ≤ 5000 := by omega
  have h2 : (0 : Int) ≤ (os.length : Nat) := by omega
  have hc : ∀ en0, en0 = some (oD os) → evE (callP prog j) (.comp [2] (.nm 2) .ex [(.loc 0)] none (.call "is_whole" [(.loc 2), (.cst (.int 0)), (.cst (.int 255))])) [en0, some (.int 5000), none] S = .ok (.lst (os.map fun _ => .bl true)) S := fun en0 e0 => by
    subst e0
    refine comp_map (ds := [oD os]) D.int os (fun _ => D.bl true) ?_ rfl rfl (by unfold line; omega) fun o hoo => ?_
    · simp only [Int.cast_ofNat_Int, evSs_cons, evSs_none, nxt_nx, nxt_ret, retQ_ret, retQ_nx, W_ok, W_bind, bind_ok', lift_some, cup_view, vw_non, vw_int, vw_bl, vw_str, vw_tup, vw_lst, wipeE, evS.eq_1, evS.eq_2, evS.eq_3, evS.eq_4, evS.eq_5, evS.eq_6, evS.eq_7, evS.eq_8, evS.eq_9, evS.eq_10, evS.eq_11, evE.eq_1, evE.eq_2, evE.eq_3, evE.eq_4, evE.eq_5, evE.eq_6, evE.eq_7, evE.eq_8, evE.eq_9, evE.eq_10, evE.eq_11, evE.eq_12, evE.eq_13, evE.eq_14, evE.eq_15, evE.eq_16, evE.eq_17, evE.eq_18, evE.eq_19, evEs, evO, evC, builtin.eq_1, builtin.eq_2, builtin.eq_3, builtin.eq_4, builtin.eq_5, builtin.eq_6, builtin.eq_7, builtin.eq_8, builtin.eq_9, builtin.eq_10, builtin.eq_11, builtin.eq_12, builtin.eq_13, builtin.eq_14, builtin.eq_15, builtin.eq_16, builtin.eq_17, builtin.eq_18, builtin.eq_19, builtin.eq_20, builtin.eq_21, builtin.eq_22, builtin.eq_23, builtin.eq_24, builtin.eq_25, builtin.eq_26, builtin.eq_27, builtin.eq_28, builtin.eq_29, builtin.eq_30, builtin.eq_31, builtin.eq_32, builtin.eq_33, builtin.eq_34, builtin.eq_35, builtin.eq_36, builtin.eq_37, builtin.eq_38, builtin.eq_39, builtin.eq_40, builtin.eq_41, builtin.eq_42, builtin.eq_43, binop.eq_1, binop.eq_2, binop.eq_3, binop.eq_4, binop.eq_5, binop.eq_6, binop.eq_7, binop.eq_8, binop.eq_9, binop.eq_10, binop.eq_11, binop.eq_12, cmpop.eq_1, cmpop.eq_2, cmpop.eq_3, cmpop.eq_4, cmpop.eq_5, cmpop.eq_6, cmpop.eq_7, cmpop.eq_8, cmpop.eq_9, cmpop.eq_10, cmpop.eq_11, cmpop.eq_12, cmpop.eq_13, cmpop.eq_14, cmpop.eq_15, cmpop.eq_16, cmpop.eq_17, cmpop.eq_18, cmpop.eq_19, isScalar, Tg.put.eq_1, Tg.put.eq_2, Tg.puts.eq_1, Tg.puts.eq_2, Nat.zero_le, List.set_cons_zero, List.set_cons_succ, List.getElem?_cons_zero, List.getElem?_cons_succ, List.map_cons, List.map_nil, List.cons_append, List.nil_append, List.replicate_succ, List.replicate_zero, Option.map_some, Option.map_none, Option.bind_some, if_true, if_false, Bool.not_true, Bool.not_false, Nat.sub_self, List.length_cons, List.length_nil, Bool.false_eq_true, reduceCtorEq, and_self, and_true, true_and, decide_true, decide_false, Int.reduceLT, Int.reduceLE, Int.reduceEq, Nat.reduceLeDiff, Nat.reduceAdd, eqOk_ii, eqv_ii, eqOk_ss, eqv_ss, ltOk_ii, lt_ii, l1, l2, l3, l4, Nat.zero_add, eq_self,  Bool.and_self, Bool.and_true, Bool.true_and, List.append_nil]
    · have := ho o hoo
      simp only [bodyC, Int.cast_ofNat_Int, evSs_cons, evSs_none, nxt_nx, nxt_ret, retQ_ret, retQ_nx, W_ok, W_bind, bind_ok', lift_some, cup_view, vw_non, vw_int, vw_bl, vw_str, vw_tup, vw_lst, wipeE, evS.eq_1, evS.eq_2, evS.eq_3, evS.eq_4, evS.eq_5, evS.eq_6, evS.eq_7, evS.eq_8, evS.eq_9, evS.eq_10, evS.eq_11, evE.eq_1, evE.eq_2, evE.eq_3, evE.eq_4, evE.eq_5, evE.eq_6, evE.eq_7, evE.eq_8, evE.eq_9, evE.eq_10, evE.eq_11, evE.eq_12, evE.eq_13, evE.eq_14, evE.eq_15, evE.eq_16, evE.eq_17, evE.eq_18, evE.eq_19, evEs, evO, evC, builtin.eq_1, builtin.eq_2, builtin.eq_3, builtin.eq_4, builtin.eq_5, builtin.eq_6, builtin.eq_7, builtin.eq_8, builtin.eq_9, builtin.eq_10, builtin.eq_11, builtin.eq_12, builtin.eq_13, builtin.eq_14, builtin.eq_15, builtin.eq_16, builtin.eq_17, builtin.eq_18, builtin.eq_19, builtin.eq_20, builtin.eq_21, builtin.eq_22, builtin.eq_23, builtin.eq_24, builtin.eq_25, builtin.eq_26, builtin.eq_27, builtin.eq_28, builtin.eq_29, builtin.eq_30, builtin.eq_31, builtin.eq_32, builtin.eq_33, builtin.eq_34, builtin.eq_35, builtin.eq_36, builtin.eq_37, builtin.eq_38, builtin.eq_39, builtin.eq_40, builtin.eq_41, builtin.eq_42, builtin.eq_43, binop.eq_1, binop.eq_2, binop.eq_3, binop.eq_4, binop.eq_5, binop.eq_6, binop.eq_7, binop.eq_8, binop.eq_9, binop.eq_10, binop.eq_11, binop.eq_12, cmpop.eq_1, cmpop.eq_2, cmpop.eq_3, cmpop.eq_4, cmpop.eq_5, cmpop.eq_6, cmpop.eq_7, cmpop.eq_8, cmpop.eq_9, cmpop.eq_10, cmpop.eq_11, cmpop.eq_12, cmpop.eq_13, cmpop.eq_14, cmpop.eq_15, cmpop.eq_16, cmpop.eq_17, cmpop.eq_18, cmpop.eq_19, isScalar, Tg.put.eq_1, Tg.put.eq_2, Tg.puts.eq_1, Tg.puts.eq_2, Nat.zero_le, List.set_cons_zero, List.set_cons_succ, List.getElem?_cons_zero, List.getElem?_cons_succ, List.map_cons, List.map_nil, List.cons_append, List.nil_append, List.replicate_succ, List.replicate_zero, Option.map_some, Option.map_none, Option.bind_some, if_true, if_false, Bool.not_true, Bool.not_false, Nat.sub_self, List.length_cons, List.length_nil, Bool.false_eq_true, reduceCtorEq, and_self, and_true, true_and, decide_true, decide_false, Int.reduceLT, Int.reduceLE, Int.reduceEq, Nat.reduceLeDiff, Nat.reduceAdd, eqOk_ii, eqv_ii, eqOk_ss, eqv_ss, ltOk_ii, lt_ii, l1, l2, l3, l4, Nat.zero_add, eq_self,  Bool.and_self, Bool.and_true, Bool.true_and, List.append_nil, r_is_whole (show 1 ≤ j by omega), this.1, this.2]
  have ha : (allBl (os.map fun _ => D.bl true)).map (fun bs => D.bl (bs.all id)) = some (.bl true) := allBl_true _ fun x hx => by
    obtain ⟨_, _, rfl⟩ := List.mem_map.mp hx
    rfl
  have hc := hc (some (oD os)) rfl
  unfold oD at *
  simp only [f_fits_octets, Int.cast_ofNat_Int, evSs_cons, evSs_none, nxt_nx, nxt_ret, retQ_ret, retQ_nx, W_ok, W_bind, bind_ok', lift_some, cup_view, vw_non, vw_int, vw_bl, vw_str, vw_tup, vw_lst, wipeE, evS.eq_1, evS.eq_2, evS.eq_3, evS.eq_4, evS.eq_5, evS.eq_6, evS.eq_7, evS.eq_8, evS.eq_9, evS.eq_10, evS.eq_11, evE.eq_1, evE.eq_2, evE.eq_3, evE.eq_4, evE.eq_5, evE.eq_6, evE.eq_7, evE.eq_8, evE.eq_9, evE.eq_10, evE.eq_11, evE.eq_12, evE.eq_13, evE.eq_14, evE.eq_15, evE.eq_16, evE.eq_17, evE.eq_18, evE.eq_19, evEs, evO, evC, builtin.eq_1, builtin.eq_2, builtin.eq_3, builtin.eq_4, builtin.eq_5, builtin.eq_6, builtin.eq_7, builtin.eq_8, builtin.eq_9, builtin.eq_10, builtin.eq_11, builtin.eq_12, builtin.eq_13, builtin.eq_14, builtin.eq_15, builtin.eq_16, builtin.eq_17, builtin.eq_18, builtin.eq_19, builtin.eq_20, builtin.eq_21, builtin.eq_22, builtin.eq_23, builtin.eq_24, builtin.eq_25, builtin.eq_26, builtin.eq_27, builtin.eq_28, builtin.eq_29, builtin.eq_30, builtin.eq_31, builtin.eq_32, builtin.eq_33, builtin.eq_34, builtin.eq_35, builtin.eq_36, builtin.eq_37, builtin.eq_38, builtin.eq_39, builtin.eq_40, builtin.eq_41, builtin.eq_42, builtin.eq_43, binop.eq_1, binop.eq_2, binop.eq_3, binop.eq_4, binop.eq_5, binop.eq_6, binop.eq_7, binop.eq_8, binop.eq_9, binop.eq_10, binop.eq_11, binop.eq_12, cmpop.eq_1, cmpop.eq_2, cmpop.eq_3, cmpop.eq_4, cmpop.eq_5, cmpop.eq_6, cmpop.eq_7, cmpop.eq_8, cmpop.eq_9, cmpop.eq_10, cmpop.eq_11, cmpop.eq_12, cmpop.eq_13, cmpop.eq_14, cmpop.eq_15, cmpop.eq_16, cmpop.eq_17, cmpop.eq_18, cmpop.eq_19, isScalar, Tg.put.eq_1, Tg.put.eq_2, Tg.puts.eq_1, Tg.puts.eq_2, Nat.zero_le, List.set_cons_zero, List.set_cons_succ, List.getElem?_cons_zero, List.getElem?_cons_succ, List.map_cons, List.map_nil, List.cons_append, List.nil_append, List.replicate_succ, List.replicate_zero, Option.map_some, Option.map_none, Option.bind_some, if_true, if_false, Bool.not_true, Bool.not_false, Nat.sub_self, List.length_cons, List.length_nil, Bool.false_eq_true, reduceCtorEq, and_self, and_true, true_and, decide_true, decide_false, Int.reduceLT, Int.reduceLE, Int.reduceEq, Nat.reduceLeDiff, Nat.reduceAdd, eqOk_ii, eqv_ii, eqOk_ss, eqv_ss, ltOk_ii, lt_ii, l1, l2, l3, l4, Nat.zero_add, eq_self,  Bool.and_self, Bool.and_true, Bool.true_and, List.append_nil, r_is_tuple_of (show 1 ≤ j by omega), List.length_map, h1, h2, hc, ha]
theorem ix40 (a b c d : D) : idx (.tup [a, b, c, d]) (.int 0) = some a := id rfl
theorem ix41 (a b c d : D) : idx (.tup [a, b, c, d]) (.int 1) = some b := id rfl
theorem ix42 (a b c d : D) : idx (.tup [a, b, c, d]) (.int 2) = some c := id rfl
theorem ix43 (a b c d : D) : idx (.tup [a, b, c, d]) (.int 3) = some d := id rfl
theorem sl02 (a b c d : D) : slice (.tup [a, b, c, d]) none (some 2) = some (.tup [a, b]) := id rfl
theorem sl24 (a b c d : D) : slice (.tup [a, b, c, d]) (some 2) none = some (.tup [c, d]) := id rfl
theorem r_fits_rule (hk : 2 ≤ k) {r : Ru} (h : r.Ok) : callP prog k "fits_rule" [r.D] S = .ok (.bl true) S := by
  apply W.eq
  refine W_call (by omega) rfl rfl fun j hj => ?_
  obtain ⟨w, d, l, m⟩ := r
  obtain ⟨a1, a2, a3, a4, a5, a6, a7, a8⟩ := h
  simp only at a1 a2 a3 a4 a5 a6 a7 a8
  have b1 : (1 : Int) ≤ (w : Nat) := by omega
  have b2 : ((w : Nat) : Int) ≤ 16 := by omega
  have b3 : (1 : Int) ≤ (d : Nat) := by omega
  have b4 : ((d : Nat) : Int) ≤ 256 := by omega
  have b5 : (1 : Int) ≤ (l : Nat) := by omega
  have b6 : ((l : Nat) : Int) ≤ 512 := by omega
  have b7 : ((l : Nat) : Int) ≤ (m : Nat) := by omega
  have b8 : ((m : Nat) : Int) ≤ 512 := by omega
  simp only [Ru.D, f_fits_rule, Int.cast_ofNat_Int, evSs_cons, evSs_none, nxt_nx, nxt_ret, retQ_ret, retQ_nx, W_ok, W_bind, bind_ok', lift_some, cup_view, vw_non, vw_int, vw_bl, vw_str, vw_tup, vw_lst, wipeE, evS.eq_1, evS.eq_2, evS.eq_3, evS.eq_4, evS.eq_5, evS.eq_6, evS.eq_7, evS.eq_8, evS.eq_9, evS.eq_10, evS.eq_11, evE.eq_1, evE.eq_2, evE.eq_3, evE.eq_4, evE.eq_5, evE.eq_6, evE.eq_7, evE.eq_8, evE.eq_9, evE.eq_10, evE.eq_11, evE.eq_12, evE.eq_13, evE.eq_14, evE.eq_15, evE.eq_16, evE.eq_17, evE.eq_18, evE.eq_19, evEs, evO, evC, builtin.eq_1, builtin.eq_2, builtin.eq_3, builtin.eq_4, builtin.eq_5, builtin.eq_6, builtin.eq_7, builtin.eq_8, builtin.eq_9, builtin.eq_10, builtin.eq_11, builtin.eq_12, builtin.eq_13, builtin.eq_14, builtin.eq_15, builtin.eq_16, builtin.eq_17, builtin.eq_18, builtin.eq_19, builtin.eq_20, builtin.eq_21, builtin.eq_22, builtin.eq_23, builtin.eq_24, builtin.eq_25, builtin.eq_26, builtin.eq_27, builtin.eq_28, builtin.eq_29, builtin.eq_30, builtin.eq_31, builtin.eq_32, builtin.eq_33, builtin.eq_34, builtin.eq_35, builtin.eq_36, builtin.eq_37, builtin.eq_38, builtin.eq_39, builtin.eq_40, builtin.eq_41, builtin.eq_42, builtin.eq_43, binop.eq_1, binop.eq_2, binop.eq_3, binop.eq_4, binop.eq_5, binop.eq_6, binop.eq_7, binop.eq_8, binop.eq_9, binop.eq_10, binop.eq_11, binop.eq_12, cmpop.eq_1, cmpop.eq_2, cmpop.eq_3, cmpop.eq_4, cmpop.eq_5, cmpop.eq_6, cmpop.eq_7, cmpop.eq_8, cmpop.eq_9, cmpop.eq_10, cmpop.eq_11, cmpop.eq_12, cmpop.eq_13, cmpop.eq_14, cmpop.eq_15, cmpop.eq_16, cmpop.eq_17, cmpop.eq_18, cmpop.eq_19, isScalar, Tg.put.eq_1, Tg.put.eq_2, Tg.puts.eq_1, Tg.puts.eq_2, Nat.zero_le, List.set_cons_zero, List.set_cons_succ, List.getElem?_cons_zero, List.getElem?_cons_succ, List.map_cons, List.map_nil, List.cons_append, List.nil_append, List.replicate_succ, List.replicate_zero, Option.map_some, Option.map_none, Option.bind_some, if_true, if_false, Bool.not_true, Bool.not_false, Nat.sub_self, List.length_cons, List.length_nil, Bool.false_eq_true, reduceCtorEq, and_self, and_true, true_and, decide_true, decide_false, Int.reduceLT, Int.reduceLE, Int.reduceEq, Nat.reduceLeDiff, Nat.reduceAdd, eqOk_ii, eqv_ii, eqOk_ss, eqv_ss, ltOk_ii, lt_ii, l1, l2, l3, l4, Nat.zero_add, eq_self,  Bool.and_self, Bool.and_true, Bool.true_and, List.append_nil, r_is_tuple_of (show 1 ≤ j by omega), r_is_whole (show 1 ≤ j by omega), ix40, ix41, ix42, ix43, b1, b2, b3, b4, b5, b6, b7, b8]
theorem r_is_rule (hk : 3 ≤ k) {r : Ru} (h : r.Ok) : callP prog k "is_rule" [r.D] S = .ok (.bl true) S := by
  apply W.eq
  refine W_call (by omega) rfl rfl fun j hj => ?_
  simp only [f_is_rule, Int.cast_ofNat_Int, evSs_cons, evSs_none, nxt_nx, nxt_ret, retQ_ret, retQ_nx, W_ok, W_bind, bind_ok', lift_some, cup_view, vw_non, vw_int, vw_bl, vw_str, vw_tup, vw_lst, wipeE, evS.eq_1, evS.eq_2, evS.eq_3, evS.eq_4, evS.eq_5, evS.eq_6, evS.eq_7, evS.eq_8, evS.eq_9, evS.eq_10, evS.eq_11, evE.eq_1, evE.eq_2, evE.eq_3, evE.eq_4, evE.eq_5, evE.eq_6, evE.eq_7, evE.eq_8, evE.eq_9, evE.eq_10, evE.eq_11, evE.eq_12, evE.eq_13, evE.eq_14, evE.eq_15, evE.eq_16, evE.eq_17, evE.eq_18, evE.eq_19, evEs, evO, evC, builtin.eq_1, builtin.eq_2, builtin.eq_3, builtin.eq_4, builtin.eq_5, builtin.eq_6, builtin.eq_7, builtin.eq_8, builtin.eq_9, builtin.eq_10, builtin.eq_11, builtin.eq_12, builtin.eq_13, builtin.eq_14, builtin.eq_15, builtin.eq_16, builtin.eq_17, builtin.eq_18, builtin.eq_19, builtin.eq_20, builtin.eq_21, builtin.eq_22, builtin.eq_23, builtin.eq_24, builtin.eq_25, builtin.eq_26, builtin.eq_27, builtin.eq_28, builtin.eq_29, builtin.eq_30, builtin.eq_31, builtin.eq_32, builtin.eq_33, builtin.eq_34, builtin.eq_35, builtin.eq_36, builtin.eq_37, builtin.eq_38, builtin.eq_39, builtin.eq_40, builtin.eq_41, builtin.eq_42, builtin.eq_43, binop.eq_1, binop.eq_2, binop.eq_3, binop.eq_4, binop.eq_5, binop.eq_6, binop.eq_7, binop.eq_8, binop.eq_9, binop.eq_10, binop.eq_11, binop.eq_12, cmpop.eq_1, cmpop.eq_2, cmpop.eq_3, cmpop.eq_4, cmpop.eq_5, cmpop.eq_6, cmpop.eq_7, cmpop.eq_8, cmpop.eq_9, cmpop.eq_10, cmpop.eq_11, cmpop.eq_12, cmpop.eq_13, cmpop.eq_14, cmpop.eq_15, cmpop.eq_16, cmpop.eq_17, cmpop.eq_18, cmpop.eq_19, isScalar, Tg.put.eq_1, Tg.put.eq_2, Tg.puts.eq_1, Tg.puts.eq_2, Nat.zero_le, List.set_cons_zero, List.set_cons_succ, List.getElem?_cons_zero, List.getElem?_cons_succ, List.map_cons, List.map_nil, List.cons_append, List.nil_append, List.replicate_succ, List.replicate_zero, Option.map_some, Option.map_none, Option.bind_some, if_true, if_false, Bool.not_true, Bool.not_false, Nat.sub_self, List.length_cons, List.length_nil, Bool.false_eq_true, reduceCtorEq, and_self, and_true, true_and, decide_true, decide_false, Int.reduceLT, Int.reduceLE, Int.reduceEq, Nat.reduceLeDiff, Nat.reduceAdd, eqOk_ii, eqv_ii, eqOk_ss, eqv_ss, ltOk_ii, lt_ii, l1, l2, l3, l4, Nat.zero_add, eq_self,  Bool.and_self, Bool.and_true, Bool.true_and, List.append_nil, r_fits_rule (show 2 ≤ j by omega) h]
theorem r_need (hk : 3 ≤ k) {r : Ru} (h : r.Ok) {os : List Int} (ho : Oct os) (hl : os.length ≤ 5000) : callP prog k "need_both" [r.D, oD os] S = .ok .non S := by
  apply W.eq
  refine W_call (by omega) rfl rfl fun j hj => ?_
  simp only [f_need_both, Int.cast_ofNat_Int, evSs_cons, evSs_none, nxt_nx, nxt_ret, retQ_ret, retQ_nx, W_ok, W_bind, bind_ok', lift_some, cup_view, vw_non, vw_int, vw_bl, vw_str, vw_tup, vw_lst, wipeE, evS.eq_1, evS.eq_2, evS.eq_3, evS.eq_4, evS.eq_5, evS.eq_6, evS.eq_7, evS.eq_8, evS.eq_9, evS.eq_10, evS.eq_11, evE.eq_1, evE.eq_2, evE.eq_3, evE.eq_4, evE.eq_5, evE.eq_6, evE.eq_7, evE.eq_8, evE.eq_9, evE.eq_10, evE.eq_11, evE.eq_12, evE.eq_13, evE.eq_14, evE.eq_15, evE.eq_16, evE.eq_17, evE.eq_18, evE.eq_19, evEs, evO, evC, builtin.eq_1, builtin.eq_2, builtin.eq_3, builtin.eq_4, builtin.eq_5, builtin.eq_6, builtin.eq_7, builtin.eq_8, builtin.eq_9, builtin.eq_10, builtin.eq_11, builtin.eq_12, builtin.eq_13, builtin.eq_14, builtin.eq_15, builtin.eq_16, builtin.eq_17, builtin.eq_18, builtin.eq_19, builtin.eq_20, builtin.eq_21, builtin.eq_22, builtin.eq_23, builtin.eq_24, builtin.eq_25, builtin.eq_26, builtin.eq_27, builtin.eq_28, builtin.eq_29, builtin.eq_30, builtin.eq_31, builtin.eq_32, builtin.eq_33, builtin.eq_34, builtin.eq_35, builtin.eq_36, builtin.eq_37, builtin.eq_38, builtin.eq_39, builtin.eq_40, builtin.eq_41, builtin.eq_42, builtin.eq_43, binop.eq_1, binop.eq_2, binop.eq_3, binop.eq_4, binop.eq_5, binop.eq_6, binop.eq_7, binop.eq_8, binop.eq_9, binop.eq_10, binop.eq_11, binop.eq_12, cmpop.eq_1, cmpop.eq_2, cmpop.eq_3, cmpop.eq_4, cmpop.eq_5, cmpop.eq_6, cmpop.eq_7, cmpop.eq_8, cmpop.eq_9, cmpop.eq_10, cmpop.eq_11, cmpop.eq_12, cmpop.eq_13, cmpop.eq_14, cmpop.eq_15, cmpop.eq_16, cmpop.eq_17, cmpop.eq_18, cmpop.eq_19, isScalar, Tg.put.eq_1, Tg.put.eq_2, Tg.puts.eq_1, Tg.puts.eq_2, Nat.zero_le, List.set_cons_zero, List.set_cons_succ, List.getElem?_cons_zero, List.getElem?_cons_succ, List.map_cons, List.map_nil, List.cons_append, List.nil_append, List.replicate_succ, List.replicate_zero, Option.map_some, Option.map_none, Option.bind_some, if_true, if_false, Bool.not_true, Bool.not_false, Nat.sub_self, List.length_cons, List.length_nil, Bool.false_eq_true, reduceCtorEq, and_self, and_true, true_and, decide_true, decide_false, Int.reduceLT, Int.reduceLE, Int.reduceEq, Nat.reduceLeDiff, Nat.reduceAdd, eqOk_ii, eqv_ii, eqOk_ss, eqv_ss, ltOk_ii, lt_ii, l1, l2, l3, l4, Nat.zero_add, eq_self,  Bool.and_self, Bool.and_true, Bool.true_and, List.append_nil, r_fits_rule (show 2 ≤ j by omega) h, r_fits_octets (show 2 ≤ j by omega) ho hl]
end
theorem range_split {n : Nat} {pre suf : List Nat} {a : Nat} (h : List.range n = pre ++ a :: suf) : a = pre.length ∧ a < n := by
  have h1 : (List.range n)[pre.length]? = some a := by rw [h]; simp
  have hl : pre.length < n := by
    have := (List.getElem?_eq_some_iff.mp h1).1
    simpa using this
  rw [List.getElem?_range hl] at h1
  cases h1
  exact ⟨rfl, hl⟩
theorem enum_get : ∀ (xs : List D) (k i : Nat), (enumD k xs)[i]? = xs[i]?.map fun x => D.tup [.int ((k + i : Nat) : Int), x]
  | [], k, i => by simp [enumD]
  | x :: xs, k, 0 => by simp [enumD]
  | x :: xs, k, i + 1 => by
    rw [enumD, List.getElem?_cons_succ, List.getElem?_cons_succ, enum_get xs (k + 1) i, show k + 1 + i = k + (i + 1) by omega]
theorem vw_oD (S : Sto) (os : List Int) : view S (oD os) = oD os := id rfl
def enD (os : List Int) (i : Nat) : D := .tup [.int (i : Int), .int (os.getD i 0)]
theorem walk_enum {S : Sto} (os : List Int) : walk S .enum [oD os] = some ((List.range os.length).map (enD os)) := by
  show some (enumD 0 (os.map .int)) = _
  congr 1
  refine List.ext_getElem? fun i => ?_
  rw [enum_get, List.getElem?_map, List.getElem?_map, Nat.zero_add]
  by_cases h : i < os.length
  · rw [List.getElem?_range h, List.getElem?_eq_getElem h]
    simp [enD, h]
  · rw [List.getElem?_eq_none (by omega), List.getElem?_eq_none (by simp; omega)]
    rfl
theorem ix_o {os : List Int} {i : Nat} {x : Int} {z : Int} (h : os[i]? = some x) (hz : z = (i : Int)) : idx (oD os) (.int z) = some (.int x) := by
  subst hz
  have hl := (List.getElem?_eq_some_iff.mp h).1
  obtain ⟨y, e1, _, e2⟩ := ix_at (xs := os.map D.int) (r := (i : Nat)) (by omega) (by rw [List.length_map]; omega)
  rw [Int.toNat_natCast, List.getElem?_map, h] at e1
  cases e1
  exact e2
theorem nD_app (a b : List Nat) : nD (a ++ b) = nD a ++ nD b := List.map_append
theorem nD_yes {os : List Int} {w d i : Nat} (h1 : w ≤ i + 1) (h2 : hs 0 (win os w (i + 1)) % (d : Int) = 0) : nD (mks os w d (i + 1)) = nD (mks os w d i) ++ [.int ((i : Int) + 1)] := by
  rw [mks_succ, if_pos ⟨h1, by unfold isMk; exact decide_eq_true h2⟩, nD_app]
  rfl
theorem nD_no {os : List Int} {w d i : Nat} (h : ¬ (w ≤ i + 1 ∧ hs 0 (win os w (i + 1)) % (d : Int) = 0)) : nD (mks os w d (i + 1)) = nD (mks os w d i) := by
  rw [mks_succ, if_neg (fun h' => h ⟨h'.1, of_decide_eq_true h'.2⟩), List.append_nil]
section
variable {k : Nat} {S : Sto}
theorem r_marks_in (hk : 1 ≤ k) {r : Ru} (hr : r.Ok) {os : List Int} (ho : Oct os) (hl : os.length ≤ 5000) : callP prog k "marks_in" [r.D, oD os] S = .ok (.lst (nD (mks os r.w r.d os.length))) S := by
  apply W.eq
  refine W_call hk rfl rfl fun j hj => ?_
  have hw2 := hr.w2
  have hw1 := hr.w1
  have hd1 := hr.d1
  obtain ⟨w, d, l, m⟩ := r
  simp only at hw2 hw1 hd1
  have hm : ∀ z : Int, mulOk z 263 = true := fun z => mul_small (by decide)
  simp only [f_marks_in, Int.cast_ofNat_Int, evSs_cons, evSs_none, nxt_nx, nxt_ret, retQ_ret, retQ_nx, W_ok, W_bind, bind_ok', lift_some, cup_view, vw_non, vw_int, vw_bl, vw_str, vw_tup, vw_lst, wipeE, evS.eq_1, evS.eq_2, evS.eq_3, evS.eq_4, evS.eq_5, evS.eq_6, evS.eq_7, evS.eq_8, evS.eq_9, evS.eq_10, evS.eq_11, evE.eq_1, evE.eq_2, evE.eq_3, evE.eq_4, evE.eq_5, evE.eq_6, evE.eq_7, evE.eq_8, evE.eq_9, evE.eq_10, evE.eq_11, evE.eq_12, evE.eq_13, evE.eq_14, evE.eq_15, evE.eq_16, evE.eq_17, evE.eq_18, evE.eq_19, evEs, evO, evC, builtin.eq_1, builtin.eq_2, builtin.eq_3, builtin.eq_4, builtin.eq_5, builtin.eq_6, builtin.eq_7, builtin.eq_8, builtin.eq_9, builtin.eq_10, builtin.eq_11, builtin.eq_12, builtin.eq_13, builtin.eq_14, builtin.eq_15, builtin.eq_16, builtin.eq_17, builtin.eq_18, builtin.eq_19, builtin.eq_20, builtin.eq_21, builtin.eq_22, builtin.eq_23, builtin.eq_24, builtin.eq_25, builtin.eq_26, builtin.eq_27, builtin.eq_28, builtin.eq_29, builtin.eq_30, builtin.eq_31, builtin.eq_32, builtin.eq_33, builtin.eq_34, builtin.eq_35, builtin.eq_36, builtin.eq_37, builtin.eq_38, builtin.eq_39, builtin.eq_40, builtin.eq_41, builtin.eq_42, builtin.eq_43, binop.eq_1, binop.eq_2, binop.eq_3, binop.eq_4, binop.eq_5, binop.eq_6, binop.eq_7, binop.eq_8, binop.eq_9, binop.eq_10, binop.eq_11, binop.eq_12, cmpop.eq_1, cmpop.eq_2, cmpop.eq_3, cmpop.eq_4, cmpop.eq_5, cmpop.eq_6, cmpop.eq_7, cmpop.eq_8, cmpop.eq_9, cmpop.eq_10, cmpop.eq_11, cmpop.eq_12, cmpop.eq_13, cmpop.eq_14, cmpop.eq_15, cmpop.eq_16, cmpop.eq_17, cmpop.eq_18, cmpop.eq_19, isScalar, Tg.put.eq_1, Tg.put.eq_2, Tg.puts.eq_1, Tg.puts.eq_2, Nat.zero_le, List.set_cons_zero, List.set_cons_succ, List.getElem?_cons_zero, List.getElem?_cons_succ, List.map_cons, List.map_nil, List.cons_append, List.nil_append, List.replicate_succ, List.replicate_zero, Option.map_some, Option.map_none, Option.bind_some, if_true, if_false, Bool.not_true, Bool.not_false, Nat.sub_self, List.length_cons, List.length_nil, Bool.false_eq_true, reduceCtorEq, and_self, and_true, true_and, decide_true, decide_false, Int.reduceLT, Int.reduceLE, Int.reduceEq, Nat.reduceLeDiff, Nat.reduceAdd, eqOk_ii, eqv_ii, eqOk_ss, eqv_ss, ltOk_ii, lt_ii, l1, l2, l3, l4, Nat.zero_add, eq_self,  Bool.and_self, Bool.and_true, Bool.true_and, List.append_nil, Ru.D, sl02]
  refine W_for (fun i : Nat => D.int (i : Int)) ?_
  simp only [Int.cast_ofNat_Int, evSs_cons, evSs_none, nxt_nx, nxt_ret, retQ_ret, retQ_nx, W_ok, W_bind, bind_ok', lift_some, cup_view, vw_non, vw_int, vw_bl, vw_str, vw_tup, vw_lst, wipeE, evS.eq_1, evS.eq_2, evS.eq_3, evS.eq_4, evS.eq_5, evS.eq_6, evS.eq_7, evS.eq_8, evS.eq_9, evS.eq_10, evS.eq_11, evE.eq_1, evE.eq_2, evE.eq_3, evE.eq_4, evE.eq_5, evE.eq_6, evE.eq_7, evE.eq_8, evE.eq_9, evE.eq_10, evE.eq_11, evE.eq_12, evE.eq_13, evE.eq_14, evE.eq_15, evE.eq_16, evE.eq_17, evE.eq_18, evE.eq_19, evEs, evO, evC, builtin.eq_1, builtin.eq_2, builtin.eq_3, builtin.eq_4, builtin.eq_5, builtin.eq_6, builtin.eq_7, builtin.eq_8, builtin.eq_9, builtin.eq_10, builtin.eq_11, builtin.eq_12, builtin.eq_13, builtin.eq_14, builtin.eq_15, builtin.eq_16, builtin.eq_17, builtin.eq_18, builtin.eq_19, builtin.eq_20, builtin.eq_21, builtin.eq_22, builtin.eq_23, builtin.eq_24, builtin.eq_25, builtin.eq_26, builtin.eq_27, builtin.eq_28, builtin.eq_29, builtin.eq_30, builtin.eq_31, builtin.eq_32, builtin.eq_33, builtin.eq_34, builtin.eq_35, builtin.eq_36, builtin.eq_37, builtin.eq_38, builtin.eq_39, builtin.eq_40, builtin.eq_41, builtin.eq_42, builtin.eq_43, binop.eq_1, binop.eq_2, binop.eq_3, binop.eq_4, binop.eq_5, binop.eq_6, binop.eq_7, binop.eq_8, binop.eq_9, binop.eq_10, binop.eq_11, binop.eq_12, cmpop.eq_1, cmpop.eq_2, cmpop.eq_3, cmpop.eq_4, cmpop.eq_5, cmpop.eq_6, cmpop.eq_7, cmpop.eq_8, cmpop.eq_9, cmpop.eq_10, cmpop.eq_11, cmpop.eq_12, cmpop.eq_13, cmpop.eq_14, cmpop.eq_15, cmpop.eq_16, cmpop.eq_17, cmpop.eq_18, cmpop.eq_19, isScalar, Tg.put.eq_1, Tg.put.eq_2, Tg.puts.eq_1, Tg.puts.eq_2, Nat.zero_le, List.set_cons_zero, List.set_cons_succ, List.getElem?_cons_zero, List.getElem?_cons_succ, List.map_cons, List.map_nil, List.cons_append, List.nil_append, List.replicate_succ, List.replicate_zero, Option.map_some, Option.map_none, Option.bind_some, if_true, if_false, Bool.not_true, Bool.not_false, Nat.sub_self, List.length_cons, List.length_nil, Bool.false_eq_true, reduceCtorEq, and_self, and_true, true_and, decide_true, decide_false, Int.reduceLT, Int.reduceLE, Int.reduceEq, Nat.reduceLeDiff, Nat.reduceAdd, eqOk_ii, eqv_ii, eqOk_ss, eqv_ss, ltOk_ii, lt_ii, l1, l2, l3, l4, Nat.zero_add, eq_self,  Bool.and_self, Bool.and_true, Bool.true_and, List.append_nil]
  refine ⟨List.range w, fun pre en T => T = S ∧ ∃ y, en = [some (.tup [.int w, .int d, .int l, .int m]), some (oD os), some (.int (263 ^ pre.length % PRm)), y, some (.int w), some (.int d), none, none, none, none], ?_, rfl, ⟨rfl, none, rfl⟩, (fun pre a suf en T e h => ?_), fun en T h => ?_⟩
  · have := walk_rng (S := S) (j := (w : Nat)) (by omega) (by omega)
    rw [Int.toNat_natCast] at this
    exact this
  · obtain ⟨rfl, y, rfl⟩ := h
    simp only [bodyF, Int.cast_ofNat_Int, evSs_cons, evSs_none, nxt_nx, nxt_ret, retQ_ret, retQ_nx, W_ok, W_bind, bind_ok', lift_some, cup_view, vw_non, vw_int, vw_bl, vw_str, vw_tup, vw_lst, wipeE, evS.eq_1, evS.eq_2, evS.eq_3, evS.eq_4, evS.eq_5, evS.eq_6, evS.eq_7, evS.eq_8, evS.eq_9, evS.eq_10, evS.eq_11, evE.eq_1, evE.eq_2, evE.eq_3, evE.eq_4, evE.eq_5, evE.eq_6, evE.eq_7, evE.eq_8, evE.eq_9, evE.eq_10, evE.eq_11, evE.eq_12, evE.eq_13, evE.eq_14, evE.eq_15, evE.eq_16, evE.eq_17, evE.eq_18, evE.eq_19, evEs, evO, evC, builtin.eq_1, builtin.eq_2, builtin.eq_3, builtin.eq_4, builtin.eq_5, builtin.eq_6, builtin.eq_7, builtin.eq_8, builtin.eq_9, builtin.eq_10, builtin.eq_11, builtin.eq_12, builtin.eq_13, builtin.eq_14, builtin.eq_15, builtin.eq_16, builtin.eq_17, builtin.eq_18, builtin.eq_19, builtin.eq_20, builtin.eq_21, builtin.eq_22, builtin.eq_23, builtin.eq_24, builtin.eq_25, builtin.eq_26, builtin.eq_27, builtin.eq_28, builtin.eq_29, builtin.eq_30, builtin.eq_31, builtin.eq_32, builtin.eq_33, builtin.eq_34, builtin.eq_35, builtin.eq_36, builtin.eq_37, builtin.eq_38, builtin.eq_39, builtin.eq_40, builtin.eq_41, builtin.eq_42, builtin.eq_43, binop.eq_1, binop.eq_2, binop.eq_3, binop.eq_4, binop.eq_5, binop.eq_6, binop.eq_7, binop.eq_8, binop.eq_9, binop.eq_10, binop.eq_11, binop.eq_12, cmpop.eq_1, cmpop.eq_2, cmpop.eq_3, cmpop.eq_4, cmpop.eq_5, cmpop.eq_6, cmpop.eq_7, cmpop.eq_8, cmpop.eq_9, cmpop.eq_10, cmpop.eq_11, cmpop.eq_12, cmpop.eq_13, cmpop.eq_14, cmpop.eq_15, cmpop.eq_16, cmpop.eq_17, cmpop.eq_18, cmpop.eq_19, isScalar, Tg.put.eq_1, Tg.put.eq_2, Tg.puts.eq_1, Tg.puts.eq_2, Nat.zero_le, List.set_cons_zero, List.set_cons_succ, List.getElem?_cons_zero, List.getElem?_cons_succ, List.map_cons, List.map_nil, List.cons_append, List.nil_append, List.replicate_succ, List.replicate_zero, Option.map_some, Option.map_none, Option.bind_some, if_true, if_false, Bool.not_true, Bool.not_false, Nat.sub_self, List.length_cons, List.length_nil, Bool.false_eq_true, reduceCtorEq, and_self, and_true, true_and, decide_true, decide_false, Int.reduceLT, Int.reduceLE, Int.reduceEq, Nat.reduceLeDiff, Nat.reduceAdd, eqOk_ii, eqv_ii, eqOk_ss, eqv_ss, ltOk_ii, lt_ii, l1, l2, l3, l4, Nat.zero_add, eq_self,  Bool.and_self, Bool.and_true, Bool.true_and, List.append_nil, hm]
    refine ⟨some (.int (a : Int)), ?_⟩
    congr 5
    rw [List.length_append, List.length_singleton, Int.pow_succ]
    unfold PRm
    rw [Int.mul_emod, Int.emod_emod, ← Int.mul_emod]
  · obtain ⟨rfl, y, rfl⟩ := h
    rw [List.length_range]
    simp only [Int.cast_ofNat_Int, evSs_cons, evSs_none, nxt_nx, nxt_ret, retQ_ret, retQ_nx, W_ok, W_bind, bind_ok', lift_some, cup_view, vw_non, vw_int, vw_bl, vw_str, vw_tup, vw_lst, wipeE, evS.eq_1, evS.eq_2, evS.eq_3, evS.eq_4, evS.eq_5, evS.eq_6, evS.eq_7, evS.eq_8, evS.eq_9, evS.eq_10, evS.eq_11, evE.eq_1, evE.eq_2, evE.eq_3, evE.eq_4, evE.eq_5, evE.eq_6, evE.eq_7, evE.eq_8, evE.eq_9, evE.eq_10, evE.eq_11, evE.eq_12, evE.eq_13, evE.eq_14, evE.eq_15, evE.eq_16, evE.eq_17, evE.eq_18, evE.eq_19, evEs, evO, evC, builtin.eq_1, builtin.eq_2, builtin.eq_3, builtin.eq_4, builtin.eq_5, builtin.eq_6, builtin.eq_7, builtin.eq_8, builtin.eq_9, builtin.eq_10, builtin.eq_11, builtin.eq_12, builtin.eq_13, builtin.eq_14, builtin.eq_15, builtin.eq_16, builtin.eq_17, builtin.eq_18, builtin.eq_19, builtin.eq_20, builtin.eq_21, builtin.eq_22, builtin.eq_23, builtin.eq_24, builtin.eq_25, builtin.eq_26, builtin.eq_27, builtin.eq_28, builtin.eq_29, builtin.eq_30, builtin.eq_31, builtin.eq_32, builtin.eq_33, builtin.eq_34, builtin.eq_35, builtin.eq_36, builtin.eq_37, builtin.eq_38, builtin.eq_39, builtin.eq_40, builtin.eq_41, builtin.eq_42, builtin.eq_43, binop.eq_1, binop.eq_2, binop.eq_3, binop.eq_4, binop.eq_5, binop.eq_6, binop.eq_7, binop.eq_8, binop.eq_9, binop.eq_10, binop.eq_11, binop.eq_12, cmpop.eq_1, cmpop.eq_2, cmpop.eq_3, cmpop.eq_4, cmpop.eq_5, cmpop.eq_6, cmpop.eq_7, cmpop.eq_8, cmpop.eq_9, cmpop.eq_10, cmpop.eq_11, cmpop.eq_12, cmpop.eq_13, cmpop.eq_14, cmpop.eq_15, cmpop.eq_16, cmpop.eq_17, cmpop.eq_18, cmpop.eq_19, isScalar, Tg.put.eq_1, Tg.put.eq_2, Tg.puts.eq_1, Tg.puts.eq_2, Nat.zero_le, List.set_cons_zero, List.set_cons_succ, List.getElem?_cons_zero, List.getElem?_cons_succ, List.map_cons, List.map_nil, List.cons_append, List.nil_append, List.replicate_succ, List.replicate_zero, Option.map_some, Option.map_none, Option.bind_some, if_true, if_false, Bool.not_true, Bool.not_false, Nat.sub_self, List.length_cons, List.length_nil, Bool.false_eq_true, reduceCtorEq, and_self, and_true, true_and, decide_true, decide_false, Int.reduceLT, Int.reduceLE, Int.reduceEq, Nat.reduceLeDiff, Nat.reduceAdd, eqOk_ii, eqv_ii, eqOk_ss, eqv_ss, ltOk_ii, lt_ii, l1, l2, l3, l4, Nat.zero_add, eq_self,  Bool.and_self, Bool.and_true, Bool.true_and, List.append_nil, Nat.zero_le]
    refine W_for (enD os) ?_
    simp only [Int.cast_ofNat_Int, evSs_cons, evSs_none, nxt_nx, nxt_ret, retQ_ret, retQ_nx, W_ok, W_bind, bind_ok', lift_some, cup_view, vw_non, vw_int, vw_bl, vw_str, vw_tup, vw_lst, wipeE, evS.eq_1, evS.eq_2, evS.eq_3, evS.eq_4, evS.eq_5, evS.eq_6, evS.eq_7, evS.eq_8, evS.eq_9, evS.eq_10, evS.eq_11, evE.eq_1, evE.eq_2, evE.eq_3, evE.eq_4, evE.eq_5, evE.eq_6, evE.eq_7, evE.eq_8, evE.eq_9, evE.eq_10, evE.eq_11, evE.eq_12, evE.eq_13, evE.eq_14, evE.eq_15, evE.eq_16, evE.eq_17, evE.eq_18, evE.eq_19, evEs, evO, evC, builtin.eq_1, builtin.eq_2, builtin.eq_3, builtin.eq_4, builtin.eq_5, builtin.eq_6, builtin.eq_7, builtin.eq_8, builtin.eq_9, builtin.eq_10, builtin.eq_11, builtin.eq_12, builtin.eq_13, builtin.eq_14, builtin.eq_15, builtin.eq_16, builtin.eq_17, builtin.eq_18, builtin.eq_19, builtin.eq_20, builtin.eq_21, builtin.eq_22, builtin.eq_23, builtin.eq_24, builtin.eq_25, builtin.eq_26, builtin.eq_27, builtin.eq_28, builtin.eq_29, builtin.eq_30, builtin.eq_31, builtin.eq_32, builtin.eq_33, builtin.eq_34, builtin.eq_35, builtin.eq_36, builtin.eq_37, builtin.eq_38, builtin.eq_39, builtin.eq_40, builtin.eq_41, builtin.eq_42, builtin.eq_43, binop.eq_1, binop.eq_2, binop.eq_3, binop.eq_4, binop.eq_5, binop.eq_6, binop.eq_7, binop.eq_8, binop.eq_9, binop.eq_10, binop.eq_11, binop.eq_12, cmpop.eq_1, cmpop.eq_2, cmpop.eq_3, cmpop.eq_4, cmpop.eq_5, cmpop.eq_6, cmpop.eq_7, cmpop.eq_8, cmpop.eq_9, cmpop.eq_10, cmpop.eq_11, cmpop.eq_12, cmpop.eq_13, cmpop.eq_14, cmpop.eq_15, cmpop.eq_16, cmpop.eq_17, cmpop.eq_18, cmpop.eq_19, isScalar, Tg.put.eq_1, Tg.put.eq_2, Tg.puts.eq_1, Tg.puts.eq_2, Nat.zero_le, List.set_cons_zero, List.set_cons_succ, List.getElem?_cons_zero, List.getElem?_cons_succ, List.map_cons, List.map_nil, List.cons_append, List.nil_append, List.replicate_succ, List.replicate_zero, Option.map_some, Option.map_none, Option.bind_some, if_true, if_false, Bool.not_true, Bool.not_false, Nat.sub_self, List.length_cons, List.length_nil, Bool.false_eq_true, reduceCtorEq, and_self, and_true, true_and, decide_true, decide_false, Int.reduceLT, Int.reduceLE, Int.reduceEq, Nat.reduceLeDiff, Nat.reduceAdd, eqOk_ii, eqv_ii, eqOk_ss, eqv_ss, ltOk_ii, lt_ii, l1, l2, l3, l4, Nat.zero_add, eq_self,  Bool.and_self, Bool.and_true, Bool.true_and, List.append_nil]
    refine ⟨List.range os.length, fun pre en U => U = T ∧ ∃ y1 y2, en = [some (.tup [.int w, .int d, .int l, .int m]), some (oD os), some (.int (263 ^ w % PRm)), y, some (.int w), some (.int d), some (.lst (nD (mks os w d pre.length))), some (.int (hs 0 (win os w pre.length))), y1, y2], walk_enum os, rfl, ⟨rfl, none, none, ?_⟩, (fun pre a suf en U e h => ?_), fun en U h => ?_⟩
    · rw [List.length_nil, mks_zero os d hw1, show win os w 0 = [] by simp [win]]
      rfl
    · obtain ⟨rfl, y1, y2, rfl⟩ := h
      obtain ⟨rfl, ha⟩ := range_split e
      have hg : os[pre.length]? = some (os.getD pre.length 0) := by rw [List.getElem?_eq_getElem ha]; simp [List.getD, List.getElem?_eq_getElem ha]
      have hlen : (pre ++ [pre.length]).length = pre.length + 1 := by simp
      simp only [hlen]
      generalize pre.length = i at *
      have hdp : (0 : Int) < (d : Nat) := by omega
      have hml : (nD (mks os w d i)).length < line := by
        unfold nD
        rw [List.length_map]
        have := List.length_filter_le (fun p => decide (w ≤ p) && isMk os w d p) (List.range (i + 1))
        rw [List.length_range] at this
        unfold mks line
        omega
      by_cases h1 : w ≤ i
      · have h1' : ((w : Nat) : Int) ≤ (i : Nat) := by omega
        obtain ⟨x, _, hx, _⟩ := win_hi hg hw1 h1
        have hix : idx (oD os) (.int ((i : Int) - (w : Int))) = some (.int x) := ix_o hx (by omega)
        have h2' : ((w : Nat) : Int) ≤ (i : Nat) + 1 := by omega
        have hxm : mulOk (x + 1) (263 ^ w % PRm) = true := mul_small (by unfold PRm; omega)
        have hr := roll_hi hg hw1 h1 hx
        by_cases h3 : hs 0 (win os w (i + 1)) % (d : Int) = 0
        · simp only [enD, bodyF, Int.cast_ofNat_Int, evSs_cons, evSs_none, nxt_nx, nxt_ret, retQ_ret, retQ_nx, W_ok, W_bind, bind_ok', lift_some, cup_view, vw_non, vw_int, vw_bl, vw_str, vw_tup, vw_lst, wipeE, evS.eq_1, evS.eq_2, evS.eq_3, evS.eq_4, evS.eq_5, evS.eq_6, evS.eq_7, evS.eq_8, evS.eq_9, evS.eq_10, evS.eq_11, evE.eq_1, evE.eq_2, evE.eq_3, evE.eq_4, evE.eq_5, evE.eq_6, evE.eq_7, evE.eq_8, evE.eq_9, evE.eq_10, evE.eq_11, evE.eq_12, evE.eq_13, evE.eq_14, evE.eq_15, evE.eq_16, evE.eq_17, evE.eq_18, evE.eq_19, evEs, evO, evC, builtin.eq_1, builtin.eq_2, builtin.eq_3, builtin.eq_4, builtin.eq_5, builtin.eq_6, builtin.eq_7, builtin.eq_8, builtin.eq_9, builtin.eq_10, builtin.eq_11, builtin.eq_12, builtin.eq_13, builtin.eq_14, builtin.eq_15, builtin.eq_16, builtin.eq_17, builtin.eq_18, builtin.eq_19, builtin.eq_20, builtin.eq_21, builtin.eq_22, builtin.eq_23, builtin.eq_24, builtin.eq_25, builtin.eq_26, builtin.eq_27, builtin.eq_28, builtin.eq_29, builtin.eq_30, builtin.eq_31, builtin.eq_32, builtin.eq_33, builtin.eq_34, builtin.eq_35, builtin.eq_36, builtin.eq_37, builtin.eq_38, builtin.eq_39, builtin.eq_40, builtin.eq_41, builtin.eq_42, builtin.eq_43, binop.eq_1, binop.eq_2, binop.eq_3, binop.eq_4, binop.eq_5, binop.eq_6, binop.eq_7, binop.eq_8, binop.eq_9, binop.eq_10, binop.eq_11, binop.eq_12, cmpop.eq_1, cmpop.eq_2, cmpop.eq_3, cmpop.eq_4, cmpop.eq_5, cmpop.eq_6, cmpop.eq_7, cmpop.eq_8, cmpop.eq_9, cmpop.eq_10, cmpop.eq_11, cmpop.eq_12, cmpop.eq_13, cmpop.eq_14, cmpop.eq_15, cmpop.eq_16, cmpop.eq_17, cmpop.eq_18, cmpop.eq_19, isScalar, Tg.put.eq_1, Tg.put.eq_2, Tg.puts.eq_1, Tg.puts.eq_2, Nat.zero_le, List.set_cons_zero, List.set_cons_succ, List.getElem?_cons_zero, List.getElem?_cons_succ, List.map_cons, List.map_nil, List.cons_append, List.nil_append, List.replicate_succ, List.replicate_zero, Option.map_some, Option.map_none, Option.bind_some, if_true, if_false, Bool.not_true, Bool.not_false, Nat.sub_self, List.length_cons, List.length_nil, Bool.false_eq_true, reduceCtorEq, and_self, and_true, true_and, decide_true, decide_false, Int.reduceLT, Int.reduceLE, Int.reduceEq, Nat.reduceLeDiff, Nat.reduceAdd, eqOk_ii, eqv_ii, eqOk_ss, eqv_ss, ltOk_ii, lt_ii, l1, l2, l3, l4, Nat.zero_add, eq_self,  Bool.and_self, Bool.and_true, Bool.true_and, List.append_nil, vw_oD, hm, h1', h2', hix, hxm, hr, hdp, h3, hml]
          exact ⟨some (.int i), some (.int (os.getD i 0)), by rw [nD_yes (by omega) h3]⟩
        · simp only [enD, bodyF, Int.cast_ofNat_Int, evSs_cons, evSs_none, nxt_nx, nxt_ret, retQ_ret, retQ_nx, W_ok, W_bind, bind_ok', lift_some, cup_view, vw_non, vw_int, vw_bl, vw_str, vw_tup, vw_lst, wipeE, evS.eq_1, evS.eq_2, evS.eq_3, evS.eq_4, evS.eq_5, evS.eq_6, evS.eq_7, evS.eq_8, evS.eq_9, evS.eq_10, evS.eq_11, evE.eq_1, evE.eq_2, evE.eq_3, evE.eq_4, evE.eq_5, evE.eq_6, evE.eq_7, evE.eq_8, evE.eq_9, evE.eq_10, evE.eq_11, evE.eq_12, evE.eq_13, evE.eq_14, evE.eq_15, evE.eq_16, evE.eq_17, evE.eq_18, evE.eq_19, evEs, evO, evC, builtin.eq_1, builtin.eq_2, builtin.eq_3, builtin.eq_4, builtin.eq_5, builtin.eq_6, builtin.eq_7, builtin.eq_8, builtin.eq_9, builtin.eq_10, builtin.eq_11, builtin.eq_12, builtin.eq_13, builtin.eq_14, builtin.eq_15, builtin.eq_16, builtin.eq_17, builtin.eq_18, builtin.eq_19, builtin.eq_20, builtin.eq_21, builtin.eq_22, builtin.eq_23, builtin.eq_24, builtin.eq_25, builtin.eq_26, builtin.eq_27, builtin.eq_28, builtin.eq_29, builtin.eq_30, builtin.eq_31, builtin.eq_32, builtin.eq_33, builtin.eq_34, builtin.eq_35, builtin.eq_36, builtin.eq_37, builtin.eq_38, builtin.eq_39, builtin.eq_40, builtin.eq_41, builtin.eq_42, builtin.eq_43, binop.eq_1, binop.eq_2, binop.eq_3, binop.eq_4, binop.eq_5, binop.eq_6, binop.eq_7, binop.eq_8, binop.eq_9, binop.eq_10, binop.eq_11, binop.eq_12, cmpop.eq_1, cmpop.eq_2, cmpop.eq_3, cmpop.eq_4, cmpop.eq_5, cmpop.eq_6, cmpop.eq_7, cmpop.eq_8, cmpop.eq_9, cmpop.eq_10, cmpop.eq_11, cmpop.eq_12, cmpop.eq_13, cmpop.eq_14, cmpop.eq_15, cmpop.eq_16, cmpop.eq_17, cmpop.eq_18, cmpop.eq_19, isScalar, Tg.put.eq_1, Tg.put.eq_2, Tg.puts.eq_1, Tg.puts.eq_2, Nat.zero_le, List.set_cons_zero, List.set_cons_succ, List.getElem?_cons_zero, List.getElem?_cons_succ, List.map_cons, List.map_nil, List.cons_append, List.nil_append, List.replicate_succ, List.replicate_zero, Option.map_some, Option.map_none, Option.bind_some, if_true, if_false, Bool.not_true, Bool.not_false, Nat.sub_self, List.length_cons, List.length_nil, Bool.false_eq_true, reduceCtorEq, and_self, and_true, true_and, decide_true, decide_false, Int.reduceLT, Int.reduceLE, Int.reduceEq, Nat.reduceLeDiff, Nat.reduceAdd, eqOk_ii, eqv_ii, eqOk_ss, eqv_ss, ltOk_ii, lt_ii, l1, l2, l3, l4, Nat.zero_add, eq_self,  Bool.and_self, Bool.and_true, Bool.true_and, List.append_nil, vw_oD, hm, h1', h2', hix, hxm, hr, hdp, h3, hml]
          exact ⟨some (.int i), some (.int (os.getD i 0)), by rw [nD_no fun h => h3 h.2]⟩
      · have h1' : ¬ ((w : Nat) : Int) ≤ (i : Nat) := by omega
        have hr := roll_lo hg (w := w) (by omega)
        by_cases h2 : w ≤ i + 1
        · have h2' : ((w : Nat) : Int) ≤ (i : Nat) + 1 := by omega
          by_cases h3 : hs 0 (win os w (i + 1)) % (d : Int) = 0
          · simp only [enD, bodyF, Int.cast_ofNat_Int, evSs_cons, evSs_none, nxt_nx, nxt_ret, retQ_ret, retQ_nx, W_ok, W_bind, bind_ok', lift_some, cup_view, vw_non, vw_int, vw_bl, vw_str, vw_tup, vw_lst, wipeE, evS.eq_1, evS.eq_2, evS.eq_3, evS.eq_4, evS.eq_5, evS.eq_6, evS.eq_7, evS.eq_8, evS.eq_9, evS.eq_10, evS.eq_11, evE.eq_1, evE.eq_2, evE.eq_3, evE.eq_4, evE.eq_5, evE.eq_6, evE.eq_7, evE.eq_8, evE.eq_9, evE.eq_10, evE.eq_11, evE.eq_12, evE.eq_13, evE.eq_14, evE.eq_15, evE.eq_16, evE.eq_17, evE.eq_18, evE.eq_19, evEs, evO, evC, builtin.eq_1, builtin.eq_2, builtin.eq_3, builtin.eq_4, builtin.eq_5, builtin.eq_6, builtin.eq_7, builtin.eq_8, builtin.eq_9, builtin.eq_10, builtin.eq_11, builtin.eq_12, builtin.eq_13, builtin.eq_14, builtin.eq_15, builtin.eq_16, builtin.eq_17, builtin.eq_18, builtin.eq_19, builtin.eq_20, builtin.eq_21, builtin.eq_22, builtin.eq_23, builtin.eq_24, builtin.eq_25, builtin.eq_26, builtin.eq_27, builtin.eq_28, builtin.eq_29, builtin.eq_30, builtin.eq_31, builtin.eq_32, builtin.eq_33, builtin.eq_34, builtin.eq_35, builtin.eq_36, builtin.eq_37, builtin.eq_38, builtin.eq_39, builtin.eq_40, builtin.eq_41, builtin.eq_42, builtin.eq_43, binop.eq_1, binop.eq_2, binop.eq_3, binop.eq_4, binop.eq_5, binop.eq_6, binop.eq_7, binop.eq_8, binop.eq_9, binop.eq_10, binop.eq_11, binop.eq_12, cmpop.eq_1, cmpop.eq_2, cmpop.eq_3, cmpop.eq_4, cmpop.eq_5, cmpop.eq_6, cmpop.eq_7, cmpop.eq_8, cmpop.eq_9, cmpop.eq_10, cmpop.eq_11, cmpop.eq_12, cmpop.eq_13, cmpop.eq_14, cmpop.eq_15, cmpop.eq_16, cmpop.eq_17, cmpop.eq_18, cmpop.eq_19, isScalar, Tg.put.eq_1, Tg.put.eq_2, Tg.puts.eq_1, Tg.puts.eq_2, Nat.zero_le, List.set_cons_zero, List.set_cons_succ, List.getElem?_cons_zero, List.getElem?_cons_succ, List.map_cons, List.map_nil, List.cons_append, List.nil_append, List.replicate_succ, List.replicate_zero, Option.map_some, Option.map_none, Option.bind_some, if_true, if_false, Bool.not_true, Bool.not_false, Nat.sub_self, List.length_cons, List.length_nil, Bool.false_eq_true, reduceCtorEq, and_self, and_true, true_and, decide_true, decide_false, Int.reduceLT, Int.reduceLE, Int.reduceEq, Nat.reduceLeDiff, Nat.reduceAdd, eqOk_ii, eqv_ii, eqOk_ss, eqv_ss, ltOk_ii, lt_ii, l1, l2, l3, l4, Nat.zero_add, eq_self,  Bool.and_self, Bool.and_true, Bool.true_and, List.append_nil, vw_oD, hm, h1', h2', hr, hdp, h3, hml]
            exact ⟨some (.int i), some (.int (os.getD i 0)), by rw [nD_yes (by omega) h3]⟩
          · simp only [enD, bodyF, Int.cast_ofNat_Int, evSs_cons, evSs_none, nxt_nx, nxt_ret, retQ_ret, retQ_nx, W_ok, W_bind, bind_ok', lift_some, cup_view, vw_non, vw_int, vw_bl, vw_str, vw_tup, vw_lst, wipeE, evS.eq_1, evS.eq_2, evS.eq_3, evS.eq_4, evS.eq_5, evS.eq_6, evS.eq_7, evS.eq_8, evS.eq_9, evS.eq_10, evS.eq_11, evE.eq_1, evE.eq_2, evE.eq_3, evE.eq_4, evE.eq_5, evE.eq_6, evE.eq_7, evE.eq_8, evE.eq_9, evE.eq_10, evE.eq_11, evE.eq_12, evE.eq_13, evE.eq_14, evE.eq_15, evE.eq_16, evE.eq_17, evE.eq_18, evE.eq_19, evEs, evO, evC, builtin.eq_1, builtin.eq_2, builtin.eq_3, builtin.eq_4, builtin.eq_5, builtin.eq_6, builtin.eq_7, builtin.eq_8, builtin.eq_9, builtin.eq_10, builtin.eq_11, builtin.eq_12, builtin.eq_13, builtin.eq_14, builtin.eq_15, builtin.eq_16, builtin.eq_17, builtin.eq_18, builtin.eq_19, builtin.eq_20, builtin.eq_21, builtin.eq_22, builtin.eq_23, builtin.eq_24, builtin.eq_25, builtin.eq_26, builtin.eq_27, builtin.eq_28, builtin.eq_29, builtin.eq_30, builtin.eq_31, builtin.eq_32, builtin.eq_33, builtin.eq_34, builtin.eq_35, builtin.eq_36, builtin.eq_37, builtin.eq_38, builtin.eq_39, builtin.eq_40, builtin.eq_41, builtin.eq_42, builtin.eq_43, binop.eq_1, binop.eq_2, binop.eq_3, binop.eq_4, binop.eq_5, binop.eq_6, binop.eq_7, binop.eq_8, binop.eq_9, binop.eq_10, binop.eq_11, binop.eq_12, cmpop.eq_1, cmpop.eq_2, cmpop.eq_3, cmpop.eq_4, cmpop.eq_5, cmpop.eq_6, cmpop.eq_7, cmpop.eq_8, cmpop.eq_9, cmpop.eq_10, cmpop.eq_11, cmpop.eq_12, cmpop.eq_13, cmpop.eq_14, cmpop.eq_15, cmpop.eq_16, cmpop.eq_17, cmpop.eq_18, cmpop.eq_19, isScalar, Tg.put.eq_1, Tg.put.eq_2, Tg.puts.eq_1, Tg.puts.eq_2, Nat.zero_le, List.set_cons_zero, List.set_cons_succ, List.getElem?_cons_zero, List.getElem?_cons_succ, List.map_cons, List.map_nil, List.cons_append, List.nil_append, List.replicate_succ, List.replicate_zero, Option.map_some, Option.map_none, Option.bind_some, if_true, if_false, Bool.not_true, Bool.not_false, Nat.sub_self, List.length_cons, List.length_nil, Bool.false_eq_true, reduceCtorEq, and_self, and_true, true_and, decide_true, decide_false, Int.reduceLT, Int.reduceLE, Int.reduceEq, Nat.reduceLeDiff, Nat.reduceAdd, eqOk_ii, eqv_ii, eqOk_ss, eqv_ss, ltOk_ii, lt_ii, l1, l2, l3, l4, Nat.zero_add, eq_self,  Bool.and_self, Bool.and_true, Bool.true_and, List.append_nil, vw_oD, hm, h1', h2', hr, hdp, h3, hml]
            exact ⟨some (.int i), some (.int (os.getD i 0)), by rw [nD_no fun h => h3 h.2]⟩
        · have h2' : ¬ ((w : Nat) : Int) ≤ (i : Nat) + 1 := by omega
          simp only [enD, bodyF, Int.cast_ofNat_Int, evSs_cons, evSs_none, nxt_nx, nxt_ret, retQ_ret, retQ_nx, W_ok, W_bind, bind_ok', lift_some, cup_view, vw_non, vw_int, vw_bl, vw_str, vw_tup, vw_lst, wipeE, evS.eq_1, evS.eq_2, evS.eq_3, evS.eq_4, evS.eq_5, evS.eq_6, evS.eq_7, evS.eq_8, evS.eq_9, evS.eq_10, evS.eq_11, evE.eq_1, evE.eq_2, evE.eq_3, evE.eq_4, evE.eq_5, evE.eq_6, evE.eq_7, evE.eq_8, evE.eq_9, evE.eq_10, evE.eq_11, evE.eq_12, evE.eq_13, evE.eq_14, evE.eq_15, evE.eq_16, evE.eq_17, evE.eq_18, evE.eq_19, evEs, evO, evC, builtin.eq_1, builtin.eq_2, builtin.eq_3, builtin.eq_4, builtin.eq_5, builtin.eq_6, builtin.eq_7, builtin.eq_8, builtin.eq_9, builtin.eq_10, builtin.eq_11, builtin.eq_12, builtin.eq_13, builtin.eq_14, builtin.eq_15, builtin.eq_16, builtin.eq_17, builtin.eq_18, builtin.eq_19, builtin.eq_20, builtin.eq_21, builtin.eq_22, builtin.eq_23, builtin.eq_24, builtin.eq_25, builtin.eq_26, builtin.eq_27, builtin.eq_28, builtin.eq_29, builtin.eq_30, builtin.eq_31, builtin.eq_32, builtin.eq_33, builtin.eq_34, builtin.eq_35, builtin.eq_36, builtin.eq_37, builtin.eq_38, builtin.eq_39, builtin.eq_40, builtin.eq_41, builtin.eq_42, builtin.eq_43, binop.eq_1, binop.eq_2, binop.eq_3, binop.eq_4, binop.eq_5, binop.eq_6, binop.eq_7, binop.eq_8, binop.eq_9, binop.eq_10, binop.eq_11, binop.eq_12, cmpop.eq_1, cmpop.eq_2, cmpop.eq_3, cmpop.eq_4, cmpop.eq_5, cmpop.eq_6, cmpop.eq_7, cmpop.eq_8, cmpop.eq_9, cmpop.eq_10, cmpop.eq_11, cmpop.eq_12, cmpop.eq_13, cmpop.eq_14, cmpop.eq_15, cmpop.eq_16, cmpop.eq_17, cmpop.eq_18, cmpop.eq_19, isScalar, Tg.put.eq_1, Tg.put.eq_2, Tg.puts.eq_1, Tg.puts.eq_2, Nat.zero_le, List.set_cons_zero, List.set_cons_succ, List.getElem?_cons_zero, List.getElem?_cons_succ, List.map_cons, List.map_nil, List.cons_append, List.nil_append, List.replicate_succ, List.replicate_zero, Option.map_some, Option.map_none, Option.bind_some, if_true, if_false, Bool.not_true, Bool.not_false, Nat.sub_self, List.length_cons, List.length_nil, Bool.false_eq_true, reduceCtorEq, and_self, and_true, true_and, decide_true, decide_false, Int.reduceLT, Int.reduceLE, Int.reduceEq, Nat.reduceLeDiff, Nat.reduceAdd, eqOk_ii, eqv_ii, eqOk_ss, eqv_ss, ltOk_ii, lt_ii, l1, l2, l3, l4, Nat.zero_add, eq_self,  Bool.and_self, Bool.and_true, Bool.true_and, List.append_nil, vw_oD, hm, h1', h2', hr, hdp, hml]
          exact ⟨some (.int i), some (.int (os.getD i 0)), by rw [nD_no fun h => h2 h.1]⟩
    · obtain ⟨rfl, y1, y2, rfl⟩ := h
      rw [List.length_range]
      simp only [Int.cast_ofNat_Int, evSs_cons, evSs_none, nxt_nx, nxt_ret, retQ_ret, retQ_nx, W_ok, W_bind, bind_ok', lift_some, cup_view, vw_non, vw_int, vw_bl, vw_str, vw_tup, vw_lst, wipeE, evS.eq_1, evS.eq_2, evS.eq_3, evS.eq_4, evS.eq_5, evS.eq_6, evS.eq_7, evS.eq_8, evS.eq_9, evS.eq_10, evS.eq_11, evE.eq_1, evE.eq_2, evE.eq_3, evE.eq_4, evE.eq_5, evE.eq_6, evE.eq_7, evE.eq_8, evE.eq_9, evE.eq_10, evE.eq_11, evE.eq_12, evE.eq_13, evE.eq_14, evE.eq_15, evE.eq_16, evE.eq_17, evE.eq_18, evE.eq_19, evEs, evO, evC, builtin.eq_1, builtin.eq_2, builtin.eq_3, builtin.eq_4, builtin.eq_5, builtin.eq_6, builtin.eq_7, builtin.eq_8, builtin.eq_9, builtin.eq_10, builtin.eq_11, builtin.eq_12, builtin.eq_13, builtin.eq_14, builtin.eq_15, builtin.eq_16, builtin.eq_17, builtin.eq_18, builtin.eq_19, builtin.eq_20, builtin.eq_21, builtin.eq_22, builtin.eq_23, builtin.eq_24, builtin.eq_25, builtin.eq_26, builtin.eq_27, builtin.eq_28, builtin.eq_29, builtin.eq_30, builtin.eq_31, builtin.eq_32, builtin.eq_33, builtin.eq_34, builtin.eq_35, builtin.eq_36, builtin.eq_37, builtin.eq_38, builtin.eq_39, builtin.eq_40, builtin.eq_41, builtin.eq_42, builtin.eq_43, binop.eq_1, binop.eq_2, binop.eq_3, binop.eq_4, binop.eq_5, binop.eq_6, binop.eq_7, binop.eq_8, binop.eq_9, binop.eq_10, binop.eq_11, binop.eq_12, cmpop.eq_1, cmpop.eq_2, cmpop.eq_3, cmpop.eq_4, cmpop.eq_5, cmpop.eq_6, cmpop.eq_7, cmpop.eq_8, cmpop.eq_9, cmpop.eq_10, cmpop.eq_11, cmpop.eq_12, cmpop.eq_13, cmpop.eq_14, cmpop.eq_15, cmpop.eq_16, cmpop.eq_17, cmpop.eq_18, cmpop.eq_19, isScalar, Tg.put.eq_1, Tg.put.eq_2, Tg.puts.eq_1, Tg.puts.eq_2, Nat.zero_le, List.set_cons_zero, List.set_cons_succ, List.getElem?_cons_zero, List.getElem?_cons_succ, List.map_cons, List.map_nil, List.cons_append, List.nil_append, List.replicate_succ, List.replicate_zero, Option.map_some, Option.map_none, Option.bind_some, if_true, if_false, Bool.not_true, Bool.not_false, Nat.sub_self, List.length_cons, List.length_nil, Bool.false_eq_true, reduceCtorEq, and_self, and_true, true_and, decide_true, decide_false, Int.reduceLT, Int.reduceLE, Int.reduceEq, Nat.reduceLeDiff, Nat.reduceAdd, eqOk_ii, eqv_ii, eqOk_ss, eqv_ss, ltOk_ii, lt_ii, l1, l2, l3, l4, Nat.zero_add, eq_self,  Bool.and_self, Bool.and_true, Bool.true_and, List.append_nil]
end
theorem walk_rng2 {S : Sto} {w n : Nat} (hw : w ≤ 1000000) (hn : n ≤ 1000000) : walk S .range [.int (w : Int), .int ((n : Int) + 1)] = some ((List.range (n + 1 - w)).map fun i => .int ((w + i : Nat) : Int)) := by
  have e1 : intOk (w : Int) = true := by unfold intOk; simp; omega
  have e2 : intOk ((n : Int) + 1) = true := by unfold intOk; simp; omega
  have e3 : rangeD (w : Int) ((n : Int) + 1) = (List.range (n + 1 - w)).map fun i => .int ((w + i : Nat) : Int) := by
    unfold rangeD
    rw [show ((n : Int) + 1 - w).toNat = n + 1 - w by omega]
    refine List.map_congr_left fun i _ => ?_
    rw [Int.natCast_add]
  simp only [walk, rangeOf, e1, e2, Bool.and_self, if_true, Option.bind_some, e3]
  rw [if_pos (by rw [List.length_map, List.length_range]; unfold line; omega)]
theorem slc_piece {os : List Int} {a b : Nat} {za zb : Int} (ha : a ≤ os.length) (hb : b ≤ os.length) (ea : za = (a : Int)) (eb : zb = (b : Int)) : slice (oD os) (some za) (some zb) = some (oD (piece os a b)) := by
  subst ea eb
  unfold oD
  have e1 : sIx (os.map D.int).length 0 (some (a : Int)) = a := by
    unfold sIx
    rw [List.length_map]
    dsimp only
    rw [if_neg (by omega)]
    omega
  have e2 : sIx (os.map D.int).length (os.map D.int).length (some (b : Int)) = b := by
    unfold sIx
    rw [List.length_map]
    dsimp only
    rw [if_neg (by omega)]
    omega
  simp only [slice, cut, e1, e2, piece, List.map_take, List.map_drop]
theorem win_piece (os : List Int) (w i : Nat) : win os w (w + i) = piece os i (w + i) := by
  unfold win piece
  rw [show w + i - w = i by omega, List.drop_take]
section
variable {k : Nat} {S : Sto}
theorem r_law_marks (hk : 1 ≤ k) {r : Ru} (hr : r.Ok) {os : List Int} (hl : os.length ≤ 5000) : callP prog k "_law_marks" [r.D, oD os] S = .ok (.tup (nD (mks os r.w r.d os.length))) S := by
  apply W.eq
  refine W_call hk rfl rfl fun j hj => ?_
  have hw2 := hr.w2
  have hw1 := hr.w1
  have hd1 := hr.d1
  obtain ⟨w, d, l, m⟩ := r
  simp only at hw2 hw1 hd1
  have hm : ∀ z : Int, mulOk z 263 = true := fun z => mul_small (by decide)
  have hdp : (0 : Int) < (d : Nat) := by omega
  simp only [f__law_marks, Int.cast_ofNat_Int, evSs_cons, evSs_none, nxt_nx, nxt_ret, retQ_ret, retQ_nx, W_ok, W_bind, bind_ok', lift_some, cup_view, vw_non, vw_int, vw_bl, vw_str, vw_tup, vw_lst, wipeE, evS.eq_1, evS.eq_2, evS.eq_3, evS.eq_4, evS.eq_5, evS.eq_6, evS.eq_7, evS.eq_8, evS.eq_9, evS.eq_10, evS.eq_11, evE.eq_1, evE.eq_2, evE.eq_3, evE.eq_4, evE.eq_5, evE.eq_6, evE.eq_7, evE.eq_8, evE.eq_9, evE.eq_10, evE.eq_11, evE.eq_12, evE.eq_13, evE.eq_14, evE.eq_15, evE.eq_16, evE.eq_17, evE.eq_18, evE.eq_19, evEs, evO, evC, builtin.eq_1, builtin.eq_2, builtin.eq_3, builtin.eq_4, builtin.eq_5, builtin.eq_6, builtin.eq_7, builtin.eq_8, builtin.eq_9, builtin.eq_10, builtin.eq_11, builtin.eq_12, builtin.eq_13, builtin.eq_14, builtin.eq_15, builtin.eq_16, builtin.eq_17, builtin.eq_18, builtin.eq_19, builtin.eq_20, builtin.eq_21, builtin.eq_22, builtin.eq_23, builtin.eq_24, builtin.eq_25, builtin.eq_26, builtin.eq_27, builtin.eq_28, builtin.eq_29, builtin.eq_30, builtin.eq_31, builtin.eq_32, builtin.eq_33, builtin.eq_34, builtin.eq_35, builtin.eq_36, builtin.eq_37, builtin.eq_38, builtin.eq_39, builtin.eq_40, builtin.eq_41, builtin.eq_42, builtin.eq_43, binop.eq_1, binop.eq_2, binop.eq_3, binop.eq_4, binop.eq_5, binop.eq_6, binop.eq_7, binop.eq_8, binop.eq_9, binop.eq_10, binop.eq_11, binop.eq_12, cmpop.eq_1, cmpop.eq_2, cmpop.eq_3, cmpop.eq_4, cmpop.eq_5, cmpop.eq_6, cmpop.eq_7, cmpop.eq_8, cmpop.eq_9, cmpop.eq_10, cmpop.eq_11, cmpop.eq_12, cmpop.eq_13, cmpop.eq_14, cmpop.eq_15, cmpop.eq_16, cmpop.eq_17, cmpop.eq_18, cmpop.eq_19, isScalar, Tg.put.eq_1, Tg.put.eq_2, Tg.puts.eq_1, Tg.puts.eq_2, Nat.zero_le, List.set_cons_zero, List.set_cons_succ, List.getElem?_cons_zero, List.getElem?_cons_succ, List.map_cons, List.map_nil, List.cons_append, List.nil_append, List.replicate_succ, List.replicate_zero, Option.map_some, Option.map_none, Option.bind_some, if_true, if_false, Bool.not_true, Bool.not_false, Nat.sub_self, List.length_cons, List.length_nil, Bool.false_eq_true, reduceCtorEq, and_self, and_true, true_and, decide_true, decide_false, Int.reduceLT, Int.reduceLE, Int.reduceEq, Nat.reduceLeDiff, Nat.reduceAdd, eqOk_ii, eqv_ii, eqOk_ss, eqv_ss, ltOk_ii, lt_ii, l1, l2, l3, l4, Nat.zero_add, eq_self,  Bool.and_self, Bool.and_true, Bool.true_and, List.append_nil, Ru.D, Nat.zero_le]
  refine W_for (fun i : Nat => D.int ((w + i : Nat) : Int)) ?_
  simp only [Int.cast_ofNat_Int, evSs_cons, evSs_none, nxt_nx, nxt_ret, retQ_ret, retQ_nx, W_ok, W_bind, bind_ok', lift_some, cup_view, vw_non, vw_int, vw_bl, vw_str, vw_tup, vw_lst, wipeE, evS.eq_1, evS.eq_2, evS.eq_3, evS.eq_4, evS.eq_5, evS.eq_6, evS.eq_7, evS.eq_8, evS.eq_9, evS.eq_10, evS.eq_11, evE.eq_1, evE.eq_2, evE.eq_3, evE.eq_4, evE.eq_5, evE.eq_6, evE.eq_7, evE.eq_8, evE.eq_9, evE.eq_10, evE.eq_11, evE.eq_12, evE.eq_13, evE.eq_14, evE.eq_15, evE.eq_16, evE.eq_17, evE.eq_18, evE.eq_19, evEs, evO, evC, builtin.eq_1, builtin.eq_2, builtin.eq_3, builtin.eq_4, builtin.eq_5, builtin.eq_6, builtin.eq_7, builtin.eq_8, builtin.eq_9, builtin.eq_10, builtin.eq_11, builtin.eq_12, builtin.eq_13, builtin.eq_14, builtin.eq_15, builtin.eq_16, builtin.eq_17, builtin.eq_18, builtin.eq_19, builtin.eq_20, builtin.eq_21, builtin.eq_22, builtin.eq_23, builtin.eq_24, builtin.eq_25, builtin.eq_26, builtin.eq_27, builtin.eq_28, builtin.eq_29, builtin.eq_30, builtin.eq_31, builtin.eq_32, builtin.eq_33, builtin.eq_34, builtin.eq_35, builtin.eq_36, builtin.eq_37, builtin.eq_38, builtin.eq_39, builtin.eq_40, builtin.eq_41, builtin.eq_42, builtin.eq_43, binop.eq_1, binop.eq_2, binop.eq_3, binop.eq_4, binop.eq_5, binop.eq_6, binop.eq_7, binop.eq_8, binop.eq_9, binop.eq_10, binop.eq_11, binop.eq_12, cmpop.eq_1, cmpop.eq_2, cmpop.eq_3, cmpop.eq_4, cmpop.eq_5, cmpop.eq_6, cmpop.eq_7, cmpop.eq_8, cmpop.eq_9, cmpop.eq_10, cmpop.eq_11, cmpop.eq_12, cmpop.eq_13, cmpop.eq_14, cmpop.eq_15, cmpop.eq_16, cmpop.eq_17, cmpop.eq_18, cmpop.eq_19, isScalar, Tg.put.eq_1, Tg.put.eq_2, Tg.puts.eq_1, Tg.puts.eq_2, Nat.zero_le, List.set_cons_zero, List.set_cons_succ, List.getElem?_cons_zero, List.getElem?_cons_succ, List.map_cons, List.map_nil, List.cons_append, List.nil_append, List.replicate_succ, List.replicate_zero, Option.map_some, Option.map_none, Option.bind_some, if_true, if_false, Bool.not_true, Bool.not_false, Nat.sub_self, List.length_cons, List.length_nil, Bool.false_eq_true, reduceCtorEq, and_self, and_true, true_and, decide_true, decide_false, Int.reduceLT, Int.reduceLE, Int.reduceEq, Nat.reduceLeDiff, Nat.reduceAdd, eqOk_ii, eqv_ii, eqOk_ss, eqv_ss, ltOk_ii, lt_ii, l1, l2, l3, l4, Nat.zero_add, eq_self,  Bool.and_self, Bool.and_true, Bool.true_and, List.append_nil, ix40, vw_oD]
  unfold oD
  simp only [Int.cast_ofNat_Int, evSs_cons, evSs_none, nxt_nx, nxt_ret, retQ_ret, retQ_nx, W_ok, W_bind, bind_ok', lift_some, cup_view, vw_non, vw_int, vw_bl, vw_str, vw_tup, vw_lst, wipeE, evS.eq_1, evS.eq_2, evS.eq_3, evS.eq_4, evS.eq_5, evS.eq_6, evS.eq_7, evS.eq_8, evS.eq_9, evS.eq_10, evS.eq_11, evE.eq_1, evE.eq_2, evE.eq_3, evE.eq_4, evE.eq_5, evE.eq_6, evE.eq_7, evE.eq_8, evE.eq_9, evE.eq_10, evE.eq_11, evE.eq_12, evE.eq_13, evE.eq_14, evE.eq_15, evE.eq_16, evE.eq_17, evE.eq_18, evE.eq_19, evEs, evO, evC, builtin.eq_1, builtin.eq_2, builtin.eq_3, builtin.eq_4, builtin.eq_5, builtin.eq_6, builtin.eq_7, builtin.eq_8, builtin.eq_9, builtin.eq_10, builtin.eq_11, builtin.eq_12, builtin.eq_13, builtin.eq_14, builtin.eq_15, builtin.eq_16, builtin.eq_17, builtin.eq_18, builtin.eq_19, builtin.eq_20, builtin.eq_21, builtin.eq_22, builtin.eq_23, builtin.eq_24, builtin.eq_25, builtin.eq_26, builtin.eq_27, builtin.eq_28, builtin.eq_29, builtin.eq_30, builtin.eq_31, builtin.eq_32, builtin.eq_33, builtin.eq_34, builtin.eq_35, builtin.eq_36, builtin.eq_37, builtin.eq_38, builtin.eq_39, builtin.eq_40, builtin.eq_41, builtin.eq_42, builtin.eq_43, binop.eq_1, binop.eq_2, binop.eq_3, binop.eq_4, binop.eq_5, binop.eq_6, binop.eq_7, binop.eq_8, binop.eq_9, binop.eq_10, binop.eq_11, binop.eq_12, cmpop.eq_1, cmpop.eq_2, cmpop.eq_3, cmpop.eq_4, cmpop.eq_5, cmpop.eq_6, cmpop.eq_7, cmpop.eq_8, cmpop.eq_9, cmpop.eq_10, cmpop.eq_11, cmpop.eq_12, cmpop.eq_13, cmpop.eq_14, cmpop.eq_15, cmpop.eq_16, cmpop.eq_17, cmpop.eq_18, cmpop.eq_19, isScalar, Tg.put.eq_1, Tg.put.eq_2, Tg.puts.eq_1, Tg.puts.eq_2, Nat.zero_le, List.set_cons_zero, List.set_cons_succ, List.getElem?_cons_zero, List.getElem?_cons_succ, List.map_cons, List.map_nil, List.cons_append, List.nil_append, List.replicate_succ, List.replicate_zero, Option.map_some, Option.map_none, Option.bind_some, if_true, if_false, Bool.not_true, Bool.not_false, Nat.sub_self, List.length_cons, List.length_nil, Bool.false_eq_true, reduceCtorEq, and_self, and_true, true_and, decide_true, decide_false, Int.reduceLT, Int.reduceLE, Int.reduceEq, Nat.reduceLeDiff, Nat.reduceAdd, eqOk_ii, eqv_ii, eqOk_ss, eqv_ss, ltOk_ii, lt_ii, l1, l2, l3, l4, Nat.zero_add, eq_self,  Bool.and_self, Bool.and_true, Bool.true_and, List.append_nil, List.length_map]
  refine ⟨List.range (os.length + 1 - w), fun pre en T => T = S ∧ ∃ y3 y4 y5, en = [some (.tup [.int w, .int d, .int l, .int m]), some (oD os), some (.tup (nD ((pre.map (w + ·)).filter (isMk os w d)))), y3, y4, y5], walk_rng2 (by omega) (by omega), rfl, ⟨rfl, none, none, none, rfl⟩, (fun pre i suf en T e h => ?_), fun en T h => ?_⟩
  · obtain ⟨rfl, y3, y4, y5, rfl⟩ := h
    obtain ⟨rfl, ha⟩ := range_split e
    simp only [bodyF, Int.cast_ofNat_Int, evSs_cons, evSs_none, nxt_nx, nxt_ret, retQ_ret, retQ_nx, W_ok, W_bind, bind_ok', lift_some, cup_view, vw_non, vw_int, vw_bl, vw_str, vw_tup, vw_lst, wipeE, evS.eq_1, evS.eq_2, evS.eq_3, evS.eq_4, evS.eq_5, evS.eq_6, evS.eq_7, evS.eq_8, evS.eq_9, evS.eq_10, evS.eq_11, evE.eq_1, evE.eq_2, evE.eq_3, evE.eq_4, evE.eq_5, evE.eq_6, evE.eq_7, evE.eq_8, evE.eq_9, evE.eq_10, evE.eq_11, evE.eq_12, evE.eq_13, evE.eq_14, evE.eq_15, evE.eq_16, evE.eq_17, evE.eq_18, evE.eq_19, evEs, evO, evC, builtin.eq_1, builtin.eq_2, builtin.eq_3, builtin.eq_4, builtin.eq_5, builtin.eq_6, builtin.eq_7, builtin.eq_8, builtin.eq_9, builtin.eq_10, builtin.eq_11, builtin.eq_12, builtin.eq_13, builtin.eq_14, builtin.eq_15, builtin.eq_16, builtin.eq_17, builtin.eq_18, builtin.eq_19, builtin.eq_20, builtin.eq_21, builtin.eq_22, builtin.eq_23, builtin.eq_24, builtin.eq_25, builtin.eq_26, builtin.eq_27, builtin.eq_28, builtin.eq_29, builtin.eq_30, builtin.eq_31, builtin.eq_32, builtin.eq_33, builtin.eq_34, builtin.eq_35, builtin.eq_36, builtin.eq_37, builtin.eq_38, builtin.eq_39, builtin.eq_40, builtin.eq_41, builtin.eq_42, builtin.eq_43, binop.eq_1, binop.eq_2, binop.eq_3, binop.eq_4, binop.eq_5, binop.eq_6, binop.eq_7, binop.eq_8, binop.eq_9, binop.eq_10, binop.eq_11, binop.eq_12, cmpop.eq_1, cmpop.eq_2, cmpop.eq_3, cmpop.eq_4, cmpop.eq_5, cmpop.eq_6, cmpop.eq_7, cmpop.eq_8, cmpop.eq_9, cmpop.eq_10, cmpop.eq_11, cmpop.eq_12, cmpop.eq_13, cmpop.eq_14, cmpop.eq_15, cmpop.eq_16, cmpop.eq_17, cmpop.eq_18, cmpop.eq_19, isScalar, Tg.put.eq_1, Tg.put.eq_2, Tg.puts.eq_1, Tg.puts.eq_2, Nat.zero_le, List.set_cons_zero, List.set_cons_succ, List.getElem?_cons_zero, List.getElem?_cons_succ, List.map_cons, List.map_nil, List.cons_append, List.nil_append, List.replicate_succ, List.replicate_zero, Option.map_some, Option.map_none, Option.bind_some, if_true, if_false, Bool.not_true, Bool.not_false, Nat.sub_self, List.length_cons, List.length_nil, Bool.false_eq_true, reduceCtorEq, and_self, and_true, true_and, decide_true, decide_false, Int.reduceLT, Int.reduceLE, Int.reduceEq, Nat.reduceLeDiff, Nat.reduceAdd, eqOk_ii, eqv_ii, eqOk_ss, eqv_ss, ltOk_ii, lt_ii, l1, l2, l3, l4, Nat.zero_add, eq_self,  Bool.and_self, Bool.and_true, Bool.true_and, List.append_nil]
    refine W_for D.int ?_
    have hs1 : slice (oD os) (some (((w + pre.length : Nat) : Int) - (w : Int))) (some ((w + pre.length : Nat) : Int)) = some (oD (win os w (w + pre.length))) := by
      rw [win_piece]
      exact slc_piece (by omega) (by omega) (by omega) (by omega)
    simp only [Int.cast_ofNat_Int, evSs_cons, evSs_none, nxt_nx, nxt_ret, retQ_ret, retQ_nx, W_ok, W_bind, bind_ok', lift_some, cup_view, vw_non, vw_int, vw_bl, vw_str, vw_tup, vw_lst, wipeE, evS.eq_1, evS.eq_2, evS.eq_3, evS.eq_4, evS.eq_5, evS.eq_6, evS.eq_7, evS.eq_8, evS.eq_9, evS.eq_10, evS.eq_11, evE.eq_1, evE.eq_2, evE.eq_3, evE.eq_4, evE.eq_5, evE.eq_6, evE.eq_7, evE.eq_8, evE.eq_9, evE.eq_10, evE.eq_11, evE.eq_12, evE.eq_13, evE.eq_14, evE.eq_15, evE.eq_16, evE.eq_17, evE.eq_18, evE.eq_19, evEs, evO, evC, builtin.eq_1, builtin.eq_2, builtin.eq_3, builtin.eq_4, builtin.eq_5, builtin.eq_6, builtin.eq_7, builtin.eq_8, builtin.eq_9, builtin.eq_10, builtin.eq_11, builtin.eq_12, builtin.eq_13, builtin.eq_14, builtin.eq_15, builtin.eq_16, builtin.eq_17, builtin.eq_18, builtin.eq_19, builtin.eq_20, builtin.eq_21, builtin.eq_22, builtin.eq_23, builtin.eq_24, builtin.eq_25, builtin.eq_26, builtin.eq_27, builtin.eq_28, builtin.eq_29, builtin.eq_30, builtin.eq_31, builtin.eq_32, builtin.eq_33, builtin.eq_34, builtin.eq_35, builtin.eq_36, builtin.eq_37, builtin.eq_38, builtin.eq_39, builtin.eq_40, builtin.eq_41, builtin.eq_42, builtin.eq_43, binop.eq_1, binop.eq_2, binop.eq_3, binop.eq_4, binop.eq_5, binop.eq_6, binop.eq_7, binop.eq_8, binop.eq_9, binop.eq_10, binop.eq_11, binop.eq_12, cmpop.eq_1, cmpop.eq_2, cmpop.eq_3, cmpop.eq_4, cmpop.eq_5, cmpop.eq_6, cmpop.eq_7, cmpop.eq_8, cmpop.eq_9, cmpop.eq_10, cmpop.eq_11, cmpop.eq_12, cmpop.eq_13, cmpop.eq_14, cmpop.eq_15, cmpop.eq_16, cmpop.eq_17, cmpop.eq_18, cmpop.eq_19, isScalar, Tg.put.eq_1, Tg.put.eq_2, Tg.puts.eq_1, Tg.puts.eq_2, Nat.zero_le, List.set_cons_zero, List.set_cons_succ, List.getElem?_cons_zero, List.getElem?_cons_succ, List.map_cons, List.map_nil, List.cons_append, List.nil_append, List.replicate_succ, List.replicate_zero, Option.map_some, Option.map_none, Option.bind_some, if_true, if_false, Bool.not_true, Bool.not_false, Nat.sub_self, List.length_cons, List.length_nil, Bool.false_eq_true, reduceCtorEq, and_self, and_true, true_and, decide_true, decide_false, Int.reduceLT, Int.reduceLE, Int.reduceEq, Nat.reduceLeDiff, Nat.reduceAdd, eqOk_ii, eqv_ii, eqOk_ss, eqv_ss, ltOk_ii, lt_ii, l1, l2, l3, l4, Nat.zero_add, eq_self,  Bool.and_self, Bool.and_true, Bool.true_and, List.append_nil, ix40, vw_oD, hs1]
    refine ⟨win os w (w + pre.length), fun pr en U => U = T ∧ ∃ y5, en = [some (.tup [.int w, .int d, .int l, .int m]), some (oD os), some (.tup (nD ((pre.map (w + ·)).filter (isMk os w d)))), some (.int ((w + pre.length : Nat) : Int)), some (.int (hs 0 pr)), y5], rfl, rfl, ⟨rfl, y5, rfl⟩, (fun pr o sf en U e h => ?_), fun en U h => ?_⟩
    · obtain ⟨rfl, y5, rfl⟩ := h
      simp only [bodyF, Int.cast_ofNat_Int, evSs_cons, evSs_none, nxt_nx, nxt_ret, retQ_ret, retQ_nx, W_ok, W_bind, bind_ok', lift_some, cup_view, vw_non, vw_int, vw_bl, vw_str, vw_tup, vw_lst, wipeE, evS.eq_1, evS.eq_2, evS.eq_3, evS.eq_4, evS.eq_5, evS.eq_6, evS.eq_7, evS.eq_8, evS.eq_9, evS.eq_10, evS.eq_11, evE.eq_1, evE.eq_2, evE.eq_3, evE.eq_4, evE.eq_5, evE.eq_6, evE.eq_7, evE.eq_8, evE.eq_9, evE.eq_10, evE.eq_11, evE.eq_12, evE.eq_13, evE.eq_14, evE.eq_15, evE.eq_16, evE.eq_17, evE.eq_18, evE.eq_19, evEs, evO, evC, builtin.eq_1, builtin.eq_2, builtin.eq_3, builtin.eq_4, builtin.eq_5, builtin.eq_6, builtin.eq_7, builtin.eq_8, builtin.eq_9, builtin.eq_10, builtin.eq_11, builtin.eq_12, builtin.eq_13, builtin.eq_14, builtin.eq_15, builtin.eq_16, builtin.eq_17, builtin.eq_18, builtin.eq_19, builtin.eq_20, builtin.eq_21, builtin.eq_22, builtin.eq_23, builtin.eq_24, builtin.eq_25, builtin.eq_26, builtin.eq_27, builtin.eq_28, builtin.eq_29, builtin.eq_30, builtin.eq_31, builtin.eq_32, builtin.eq_33, builtin.eq_34, builtin.eq_35, builtin.eq_36, builtin.eq_37, builtin.eq_38, builtin.eq_39, builtin.eq_40, builtin.eq_41, builtin.eq_42, builtin.eq_43, binop.eq_1, binop.eq_2, binop.eq_3, binop.eq_4, binop.eq_5, binop.eq_6, binop.eq_7, binop.eq_8, binop.eq_9, binop.eq_10, binop.eq_11, binop.eq_12, cmpop.eq_1, cmpop.eq_2, cmpop.eq_3, cmpop.eq_4, cmpop.eq_5, cmpop.eq_6, cmpop.eq_7, cmpop.eq_8, cmpop.eq_9, cmpop.eq_10, cmpop.eq_11, cmpop.eq_12, cmpop.eq_13, cmpop.eq_14, cmpop.eq_15, cmpop.eq_16, cmpop.eq_17, cmpop.eq_18, cmpop.eq_19, isScalar, Tg.put.eq_1, Tg.put.eq_2, Tg.puts.eq_1, Tg.puts.eq_2, Nat.zero_le, List.set_cons_zero, List.set_cons_succ, List.getElem?_cons_zero, List.getElem?_cons_succ, List.map_cons, List.map_nil, List.cons_append, List.nil_append, List.replicate_succ, List.replicate_zero, Option.map_some, Option.map_none, Option.bind_some, if_true, if_false, Bool.not_true, Bool.not_false, Nat.sub_self, List.length_cons, List.length_nil, Bool.false_eq_true, reduceCtorEq, and_self, and_true, true_and, decide_true, decide_false, Int.reduceLT, Int.reduceLE, Int.reduceEq, Nat.reduceLeDiff, Nat.reduceAdd, eqOk_ii, eqv_ii, eqOk_ss, eqv_ss, ltOk_ii, lt_ii, l1, l2, l3, l4, Nat.zero_add, eq_self,  Bool.and_self, Bool.and_true, Bool.true_and, List.append_nil, hm]
      exact ⟨some (.int o), by rw [hs_snoc]⟩
    · obtain ⟨rfl, y5, rfl⟩ := h
      have hml : (nD ((pre.map (w + ·)).filter (isMk os w d))).length ≤ 100000 := by
        unfold nD
        rw [List.length_map]
        have := List.length_filter_le (isMk os w d) (pre.map (w + ·))
        rw [List.length_map] at this
        omega
      have hm0 : (nD ((pre.map (w + ·)).filter (isMk os w d))).length + 0 ≤ line := by unfold line; omega
      have hm1 : (nD ((pre.map (w + ·)).filter (isMk os w d))).length + 1 ≤ line := by unfold line; omega
      by_cases h3 : hs 0 (win os w (w + pre.length)) % (d : Int) = 0
      · simp only [Int.cast_ofNat_Int, evSs_cons, evSs_none, nxt_nx, nxt_ret, retQ_ret, retQ_nx, W_ok, W_bind, bind_ok', lift_some, cup_view, vw_non, vw_int, vw_bl, vw_str, vw_tup, vw_lst, wipeE, evS.eq_1, evS.eq_2, evS.eq_3, evS.eq_4, evS.eq_5, evS.eq_6, evS.eq_7, evS.eq_8, evS.eq_9, evS.eq_10, evS.eq_11, evE.eq_1, evE.eq_2, evE.eq_3, evE.eq_4, evE.eq_5, evE.eq_6, evE.eq_7, evE.eq_8, evE.eq_9, evE.eq_10, evE.eq_11, evE.eq_12, evE.eq_13, evE.eq_14, evE.eq_15, evE.eq_16, evE.eq_17, evE.eq_18, evE.eq_19, evEs, evO, evC, builtin.eq_1, builtin.eq_2, builtin.eq_3, builtin.eq_4, builtin.eq_5, builtin.eq_6, builtin.eq_7, builtin.eq_8, builtin.eq_9, builtin.eq_10, builtin.eq_11, builtin.eq_12, builtin.eq_13, builtin.eq_14, builtin.eq_15, builtin.eq_16, builtin.eq_17, builtin.eq_18, builtin.eq_19, builtin.eq_20, builtin.eq_21, builtin.eq_22, builtin.eq_23, builtin.eq_24, builtin.eq_25, builtin.eq_26, builtin.eq_27, builtin.eq_28, builtin.eq_29, builtin.eq_30, builtin.eq_31, builtin.eq_32, builtin.eq_33, builtin.eq_34, builtin.eq_35, builtin.eq_36, builtin.eq_37, builtin.eq_38, builtin.eq_39, builtin.eq_40, builtin.eq_41, builtin.eq_42, builtin.eq_43, binop.eq_1, binop.eq_2, binop.eq_3, binop.eq_4, binop.eq_5, binop.eq_6, binop.eq_7, binop.eq_8, binop.eq_9, binop.eq_10, binop.eq_11, binop.eq_12, cmpop.eq_1, cmpop.eq_2, cmpop.eq_3, cmpop.eq_4, cmpop.eq_5, cmpop.eq_6, cmpop.eq_7, cmpop.eq_8, cmpop.eq_9, cmpop.eq_10, cmpop.eq_11, cmpop.eq_12, cmpop.eq_13, cmpop.eq_14, cmpop.eq_15, cmpop.eq_16, cmpop.eq_17, cmpop.eq_18, cmpop.eq_19, isScalar, Tg.put.eq_1, Tg.put.eq_2, Tg.puts.eq_1, Tg.puts.eq_2, Nat.zero_le, List.set_cons_zero, List.set_cons_succ, List.getElem?_cons_zero, List.getElem?_cons_succ, List.map_cons, List.map_nil, List.cons_append, List.nil_append, List.replicate_succ, List.replicate_zero, Option.map_some, Option.map_none, Option.bind_some, if_true, if_false, Bool.not_true, Bool.not_false, Nat.sub_self, List.length_cons, List.length_nil, Bool.false_eq_true, reduceCtorEq, and_self, and_true, true_and, decide_true, decide_false, Int.reduceLT, Int.reduceLE, Int.reduceEq, Nat.reduceLeDiff, Nat.reduceAdd, eqOk_ii, eqv_ii, eqOk_ss, eqv_ss, ltOk_ii, lt_ii, l1, l2, l3, l4, Nat.zero_add, eq_self,  Bool.and_self, Bool.and_true, Bool.true_and, List.append_nil, ix41, hdp, h3, hm1, Nat.zero_le]
        refine ⟨some (.int ((w + pre.length : Nat) : Int)), some (.int (hs 0 (win os w (w + pre.length)))), y5, ?_⟩
        rw [List.map_append, List.filter_append, nD_app]
        simp [isMk, h3, nD]
      · simp only [Int.cast_ofNat_Int, evSs_cons, evSs_none, nxt_nx, nxt_ret, retQ_ret, retQ_nx, W_ok, W_bind, bind_ok', lift_some, cup_view, vw_non, vw_int, vw_bl, vw_str, vw_tup, vw_lst, wipeE, evS.eq_1, evS.eq_2, evS.eq_3, evS.eq_4, evS.eq_5, evS.eq_6, evS.eq_7, evS.eq_8, evS.eq_9, evS.eq_10, evS.eq_11, evE.eq_1, evE.eq_2, evE.eq_3, evE.eq_4, evE.eq_5, evE.eq_6, evE.eq_7, evE.eq_8, evE.eq_9, evE.eq_10, evE.eq_11, evE.eq_12, evE.eq_13, evE.eq_14, evE.eq_15, evE.eq_16, evE.eq_17, evE.eq_18, evE.eq_19, evEs, evO, evC, builtin.eq_1, builtin.eq_2, builtin.eq_3, builtin.eq_4, builtin.eq_5, builtin.eq_6, builtin.eq_7, builtin.eq_8, builtin.eq_9, builtin.eq_10, builtin.eq_11, builtin.eq_12, builtin.eq_13, builtin.eq_14, builtin.eq_15, builtin.eq_16, builtin.eq_17, builtin.eq_18, builtin.eq_19, builtin.eq_20, builtin.eq_21, builtin.eq_22, builtin.eq_23, builtin.eq_24, builtin.eq_25, builtin.eq_26, builtin.eq_27, builtin.eq_28, builtin.eq_29, builtin.eq_30, builtin.eq_31, builtin.eq_32, builtin.eq_33, builtin.eq_34, builtin.eq_35, builtin.eq_36, builtin.eq_37, builtin.eq_38, builtin.eq_39, builtin.eq_40, builtin.eq_41, builtin.eq_42, builtin.eq_43, binop.eq_1, binop.eq_2, binop.eq_3, binop.eq_4, binop.eq_5, binop.eq_6, binop.eq_7, binop.eq_8, binop.eq_9, binop.eq_10, binop.eq_11, binop.eq_12, cmpop.eq_1, cmpop.eq_2, cmpop.eq_3, cmpop.eq_4, cmpop.eq_5, cmpop.eq_6, cmpop.eq_7, cmpop.eq_8, cmpop.eq_9, cmpop.eq_10, cmpop.eq_11, cmpop.eq_12, cmpop.eq_13, cmpop.eq_14, cmpop.eq_15, cmpop.eq_16, cmpop.eq_17, cmpop.eq_18, cmpop.eq_19, isScalar, Tg.put.eq_1, Tg.put.eq_2, Tg.puts.eq_1, Tg.puts.eq_2, Nat.zero_le, List.set_cons_zero, List.set_cons_succ, List.getElem?_cons_zero, List.getElem?_cons_succ, List.map_cons, List.map_nil, List.cons_append, List.nil_append, List.replicate_succ, List.replicate_zero, Option.map_some, Option.map_none, Option.bind_some, if_true, if_false, Bool.not_true, Bool.not_false, Nat.sub_self, List.length_cons, List.length_nil, Bool.false_eq_true, reduceCtorEq, and_self, and_true, true_and, decide_true, decide_false, Int.reduceLT, Int.reduceLE, Int.reduceEq, Nat.reduceLeDiff, Nat.reduceAdd, eqOk_ii, eqv_ii, eqOk_ss, eqv_ss, ltOk_ii, lt_ii, l1, l2, l3, l4, Nat.zero_add, eq_self,  Bool.and_self, Bool.and_true, Bool.true_and, List.append_nil, ix41, hdp, h3, hm0, Nat.zero_le]
        refine ⟨some (.int ((w + pre.length : Nat) : Int)), some (.int (hs 0 (win os w (w + pre.length)))), y5, ?_⟩
        rw [List.map_append, List.filter_append, nD_app]
        simp [isMk, h3, nD]
  · obtain ⟨rfl, y3, y4, y5, rfl⟩ := h
    simp only [Int.cast_ofNat_Int, evSs_cons, evSs_none, nxt_nx, nxt_ret, retQ_ret, retQ_nx, W_ok, W_bind, bind_ok', lift_some, cup_view, vw_non, vw_int, vw_bl, vw_str, vw_tup, vw_lst, wipeE, evS.eq_1, evS.eq_2, evS.eq_3, evS.eq_4, evS.eq_5, evS.eq_6, evS.eq_7, evS.eq_8, evS.eq_9, evS.eq_10, evS.eq_11, evE.eq_1, evE.eq_2, evE.eq_3, evE.eq_4, evE.eq_5, evE.eq_6, evE.eq_7, evE.eq_8, evE.eq_9, evE.eq_10, evE.eq_11, evE.eq_12, evE.eq_13, evE.eq_14, evE.eq_15, evE.eq_16, evE.eq_17, evE.eq_18, evE.eq_19, evEs, evO, evC, builtin.eq_1, builtin.eq_2, builtin.eq_3, builtin.eq_4, builtin.eq_5, builtin.eq_6, builtin.eq_7, builtin.eq_8, builtin.eq_9, builtin.eq_10, builtin.eq_11, builtin.eq_12, builtin.eq_13, builtin.eq_14, builtin.eq_15, builtin.eq_16, builtin.eq_17, builtin.eq_18, builtin.eq_19, builtin.eq_20, builtin.eq_21, builtin.eq_22, builtin.eq_23, builtin.eq_24, builtin.eq_25, builtin.eq_26, builtin.eq_27, builtin.eq_28, builtin.eq_29, builtin.eq_30, builtin.eq_31, builtin.eq_32, builtin.eq_33, builtin.eq_34, builtin.eq_35, builtin.eq_36, builtin.eq_37, builtin.eq_38, builtin.eq_39, builtin.eq_40, builtin.eq_41, builtin.eq_42, builtin.eq_43, binop.eq_1, binop.eq_2, binop.eq_3, binop.eq_4, binop.eq_5, binop.eq_6, binop.eq_7, binop.eq_8, binop.eq_9, binop.eq_10, binop.eq_11, binop.eq_12, cmpop.eq_1, cmpop.eq_2, cmpop.eq_3, cmpop.eq_4, cmpop.eq_5, cmpop.eq_6, cmpop.eq_7, cmpop.eq_8, cmpop.eq_9, cmpop.eq_10, cmpop.eq_11, cmpop.eq_12, cmpop.eq_13, cmpop.eq_14, cmpop.eq_15, cmpop.eq_16, cmpop.eq_17, cmpop.eq_18, cmpop.eq_19, isScalar, Tg.put.eq_1, Tg.put.eq_2, Tg.puts.eq_1, Tg.puts.eq_2, Nat.zero_le, List.set_cons_zero, List.set_cons_succ, List.getElem?_cons_zero, List.getElem?_cons_succ, List.map_cons, List.map_nil, List.cons_append, List.nil_append, List.replicate_succ, List.replicate_zero, Option.map_some, Option.map_none, Option.bind_some, if_true, if_false, Bool.not_true, Bool.not_false, Nat.sub_self, List.length_cons, List.length_nil, Bool.false_eq_true, reduceCtorEq, and_self, and_true, true_and, decide_true, decide_false, Int.reduceLT, Int.reduceLE, Int.reduceEq, Nat.reduceLeDiff, Nat.reduceAdd, eqOk_ii, eqv_ii, eqOk_ss, eqv_ss, ltOk_ii, lt_ii, l1, l2, l3, l4, Nat.zero_add, eq_self,  Bool.and_self, Bool.and_true, Bool.true_and, List.append_nil]
    rw [mks_range]
end
theorem pw_le {α : Type} {R : α → α → Prop} {pre suf : List α} {x : α} (h : (pre ++ x :: suf).Pairwise R) : ∀ y ∈ suf, R x y := by
  have := (List.pairwise_append.mp h).2.1
  exact (List.pairwise_cons.mp this).1
theorem L_sorted (os : List Int) (w d n : Nat) : (mks os w d n ++ [n]).Pairwise (· ≤ ·) := by
  refine List.pairwise_append.mpr ⟨mks_sorted os w d n, by simp, fun a ha b hb => ?_⟩
  rw [List.mem_singleton.mp hb]
  exact mks_le ha
theorem L_le {os : List Int} {w d n x : Nat} (h : x ∈ mks os w d n ++ [n]) : x ≤ n := by
  rcases List.mem_append.mp h with h | h
  · exact mks_le h
  · rw [List.mem_singleton.mp h]; exact Nat.le_refl _
theorem nD_len (ns : List Nat) : (nD ns).length = ns.length := List.length_map ..
def cutsL (os : List Int) (r : Ru) : List Nat := GG (mks os r.w r.d os.length ++ [os.length]) os.length r.l r.m 0
theorem mks_len (os : List Int) (w d n : Nat) : (mks os w d n).length ≤ n + 1 := by
  unfold mks
  have := List.length_filter_le (fun p => decide (w ≤ p) && isMk os w d p) (List.range (n + 1))
  rw [List.length_range] at this
  exact this
section
variable {k : Nat} {S : Sto}
theorem r_cuts_in (hk : 2 ≤ k) {r : Ru} (hr : r.Ok) {os : List Int} (ho : Oct os) (hl : os.length ≤ 5000) : callP prog k "cuts_in" [r.D, oD os] S = .ok (.lst (nD (cutsL os r))) S := by
  apply W.eq
  refine W_call (by omega) rfl rfl fun j hj => ?_
  have hmk : callP prog j "marks_in" [r.D, oD os] S = _ := r_marks_in (show 1 ≤ j by omega) hr ho hl
  have hl1 := hr.l1
  have hlm := hr.m1
  unfold cutsL
  obtain ⟨w, d, l, m⟩ := r
  simp only at hl1 hlm
  unfold Ru.D at *
  simp only at *
  simp only [f_cuts_in, Int.cast_ofNat_Int, evSs_cons, evSs_none, nxt_nx, nxt_ret, retQ_ret, retQ_nx, W_ok, W_bind, bind_ok', lift_some, cup_view, vw_non, vw_int, vw_bl, vw_str, vw_tup, vw_lst, wipeE, evS.eq_1, evS.eq_2, evS.eq_3, evS.eq_4, evS.eq_5, evS.eq_6, evS.eq_7, evS.eq_8, evS.eq_9, evS.eq_10, evS.eq_11, evE.eq_1, evE.eq_2, evE.eq_3, evE.eq_4, evE.eq_5, evE.eq_6, evE.eq_7, evE.eq_8, evE.eq_9, evE.eq_10, evE.eq_11, evE.eq_12, evE.eq_13, evE.eq_14, evE.eq_15, evE.eq_16, evE.eq_17, evE.eq_18, evE.eq_19, evEs, evO, evC, builtin.eq_1, builtin.eq_2, builtin.eq_3, builtin.eq_4, builtin.eq_5, builtin.eq_6, builtin.eq_7, builtin.eq_8, builtin.eq_9, builtin.eq_10, builtin.eq_11, builtin.eq_12, builtin.eq_13, builtin.eq_14, builtin.eq_15, builtin.eq_16, builtin.eq_17, builtin.eq_18, builtin.eq_19, builtin.eq_20, builtin.eq_21, builtin.eq_22, builtin.eq_23, builtin.eq_24, builtin.eq_25, builtin.eq_26, builtin.eq_27, builtin.eq_28, builtin.eq_29, builtin.eq_30, builtin.eq_31, builtin.eq_32, builtin.eq_33, builtin.eq_34, builtin.eq_35, builtin.eq_36, builtin.eq_37, builtin.eq_38, builtin.eq_39, builtin.eq_40, builtin.eq_41, builtin.eq_42, builtin.eq_43, binop.eq_1, binop.eq_2, binop.eq_3, binop.eq_4, binop.eq_5, binop.eq_6, binop.eq_7, binop.eq_8, binop.eq_9, binop.eq_10, binop.eq_11, binop.eq_12, cmpop.eq_1, cmpop.eq_2, cmpop.eq_3, cmpop.eq_4, cmpop.eq_5, cmpop.eq_6, cmpop.eq_7, cmpop.eq_8, cmpop.eq_9, cmpop.eq_10, cmpop.eq_11, cmpop.eq_12, cmpop.eq_13, cmpop.eq_14, cmpop.eq_15, cmpop.eq_16, cmpop.eq_17, cmpop.eq_18, cmpop.eq_19, isScalar, Tg.put.eq_1, Tg.put.eq_2, Tg.puts.eq_1, Tg.puts.eq_2, Nat.zero_le, List.set_cons_zero, List.set_cons_succ, List.getElem?_cons_zero, List.getElem?_cons_succ, List.map_cons, List.map_nil, List.cons_append, List.nil_append, List.replicate_succ, List.replicate_zero, Option.map_some, Option.map_none, Option.bind_some, if_true, if_false, Bool.not_true, Bool.not_false, Nat.sub_self, List.length_cons, List.length_nil, Bool.false_eq_true, reduceCtorEq, and_self, and_true, true_and, decide_true, decide_false, Int.reduceLT, Int.reduceLE, Int.reduceEq, Nat.reduceLeDiff, Nat.reduceAdd, eqOk_ii, eqv_ii, eqOk_ss, eqv_ss, ltOk_ii, lt_ii, l1, l2, l3, l4, Nat.zero_add, eq_self,  Bool.and_self, Bool.and_true, Bool.true_and, List.append_nil, sl24, Nat.zero_le]
  refine W_for (fun i : Nat => D.int (i : Int)) ?_
  have hml := mks_len os w d os.length
  have hm1 : (nD (mks os w d os.length)).length + 1 ≤ line := by rw [nD_len]; unfold line; omega
  simp only [Int.cast_ofNat_Int, evSs_cons, evSs_none, nxt_nx, nxt_ret, retQ_ret, retQ_nx, W_ok, W_bind, bind_ok', lift_some, cup_view, vw_non, vw_int, vw_bl, vw_str, vw_tup, vw_lst, wipeE, evS.eq_1, evS.eq_2, evS.eq_3, evS.eq_4, evS.eq_5, evS.eq_6, evS.eq_7, evS.eq_8, evS.eq_9, evS.eq_10, evS.eq_11, evE.eq_1, evE.eq_2, evE.eq_3, evE.eq_4, evE.eq_5, evE.eq_6, evE.eq_7, evE.eq_8, evE.eq_9, evE.eq_10, evE.eq_11, evE.eq_12, evE.eq_13, evE.eq_14, evE.eq_15, evE.eq_16, evE.eq_17, evE.eq_18, evE.eq_19, evEs, evO, evC, builtin.eq_1, builtin.eq_2, builtin.eq_3, builtin.eq_4, builtin.eq_5, builtin.eq_6, builtin.eq_7, builtin.eq_8, builtin.eq_9, builtin.eq_10, builtin.eq_11, builtin.eq_12, builtin.eq_13, builtin.eq_14, builtin.eq_15, builtin.eq_16, builtin.eq_17, builtin.eq_18, builtin.eq_19, builtin.eq_20, builtin.eq_21, builtin.eq_22, builtin.eq_23, builtin.eq_24, builtin.eq_25, builtin.eq_26, builtin.eq_27, builtin.eq_28, builtin.eq_29, builtin.eq_30, builtin.eq_31, builtin.eq_32, builtin.eq_33, builtin.eq_34, builtin.eq_35, builtin.eq_36, builtin.eq_37, builtin.eq_38, builtin.eq_39, builtin.eq_40, builtin.eq_41, builtin.eq_42, builtin.eq_43, binop.eq_1, binop.eq_2, binop.eq_3, binop.eq_4, binop.eq_5, binop.eq_6, binop.eq_7, binop.eq_8, binop.eq_9, binop.eq_10, binop.eq_11, binop.eq_12, cmpop.eq_1, cmpop.eq_2, cmpop.eq_3, cmpop.eq_4, cmpop.eq_5, cmpop.eq_6, cmpop.eq_7, cmpop.eq_8, cmpop.eq_9, cmpop.eq_10, cmpop.eq_11, cmpop.eq_12, cmpop.eq_13, cmpop.eq_14, cmpop.eq_15, cmpop.eq_16, cmpop.eq_17, cmpop.eq_18, cmpop.eq_19, isScalar, Tg.put.eq_1, Tg.put.eq_2, Tg.puts.eq_1, Tg.puts.eq_2, Nat.zero_le, List.set_cons_zero, List.set_cons_succ, List.getElem?_cons_zero, List.getElem?_cons_succ, List.map_cons, List.map_nil, List.cons_append, List.nil_append, List.replicate_succ, List.replicate_zero, Option.map_some, Option.map_none, Option.bind_some, if_true, if_false, Bool.not_true, Bool.not_false, Nat.sub_self, List.length_cons, List.length_nil, Bool.false_eq_true, reduceCtorEq, and_self, and_true, true_and, decide_true, decide_false, Int.reduceLT, Int.reduceLE, Int.reduceEq, Nat.reduceLeDiff, Nat.reduceAdd, eqOk_ii, eqv_ii, eqOk_ss, eqv_ss, ltOk_ii, lt_ii, l1, l2, l3, l4, Nat.zero_add, eq_self,  Bool.and_self, Bool.and_true, Bool.true_and, List.append_nil, hmk, vw_oD]
  unfold oD
  simp only [Int.cast_ofNat_Int, evSs_cons, evSs_none, nxt_nx, nxt_ret, retQ_ret, retQ_nx, W_ok, W_bind, bind_ok', lift_some, cup_view, vw_non, vw_int, vw_bl, vw_str, vw_tup, vw_lst, wipeE, evS.eq_1, evS.eq_2, evS.eq_3, evS.eq_4, evS.eq_5, evS.eq_6, evS.eq_7, evS.eq_8, evS.eq_9, evS.eq_10, evS.eq_11, evE.eq_1, evE.eq_2, evE.eq_3, evE.eq_4, evE.eq_5, evE.eq_6, evE.eq_7, evE.eq_8, evE.eq_9, evE.eq_10, evE.eq_11, evE.eq_12, evE.eq_13, evE.eq_14, evE.eq_15, evE.eq_16, evE.eq_17, evE.eq_18, evE.eq_19, evEs, evO, evC, builtin.eq_1, builtin.eq_2, builtin.eq_3, builtin.eq_4, builtin.eq_5, builtin.eq_6, builtin.eq_7, builtin.eq_8, builtin.eq_9, builtin.eq_10, builtin.eq_11, builtin.eq_12, builtin.eq_13, builtin.eq_14, builtin.eq_15, builtin.eq_16, builtin.eq_17, builtin.eq_18, builtin.eq_19, builtin.eq_20, builtin.eq_21, builtin.eq_22, builtin.eq_23, builtin.eq_24, builtin.eq_25, builtin.eq_26, builtin.eq_27, builtin.eq_28, builtin.eq_29, builtin.eq_30, builtin.eq_31, builtin.eq_32, builtin.eq_33, builtin.eq_34, builtin.eq_35, builtin.eq_36, builtin.eq_37, builtin.eq_38, builtin.eq_39, builtin.eq_40, builtin.eq_41, builtin.eq_42, builtin.eq_43, binop.eq_1, binop.eq_2, binop.eq_3, binop.eq_4, binop.eq_5, binop.eq_6, binop.eq_7, binop.eq_8, binop.eq_9, binop.eq_10, binop.eq_11, binop.eq_12, cmpop.eq_1, cmpop.eq_2, cmpop.eq_3, cmpop.eq_4, cmpop.eq_5, cmpop.eq_6, cmpop.eq_7, cmpop.eq_8, cmpop.eq_9, cmpop.eq_10, cmpop.eq_11, cmpop.eq_12, cmpop.eq_13, cmpop.eq_14, cmpop.eq_15, cmpop.eq_16, cmpop.eq_17, cmpop.eq_18, cmpop.eq_19, isScalar, Tg.put.eq_1, Tg.put.eq_2, Tg.puts.eq_1, Tg.puts.eq_2, Nat.zero_le, List.set_cons_zero, List.set_cons_succ, List.getElem?_cons_zero, List.getElem?_cons_succ, List.map_cons, List.map_nil, List.cons_append, List.nil_append, List.replicate_succ, List.replicate_zero, Option.map_some, Option.map_none, Option.bind_some, if_true, if_false, Bool.not_true, Bool.not_false, Nat.sub_self, List.length_cons, List.length_nil, Bool.false_eq_true, reduceCtorEq, and_self, and_true, true_and, decide_true, decide_false, Int.reduceLT, Int.reduceLE, Int.reduceEq, Nat.reduceLeDiff, Nat.reduceAdd, eqOk_ii, eqv_ii, eqOk_ss, eqv_ss, ltOk_ii, lt_ii, l1, l2, l3, l4, Nat.zero_add, eq_self,  Bool.and_self, Bool.and_true, Bool.true_and, List.append_nil, List.length_map, hm1]
  generalize hL : mks os w d os.length ++ [os.length] = L
  have hso : L.Pairwise (· ≤ ·) := by rw [← hL]; exact L_sorted os w d _
  have hle : ∀ x ∈ L, x ≤ os.length := fun x hx => by rw [← hL] at hx; exact L_le hx
  have hin : os.length ∈ L := by rw [← hL]; simp
  refine ⟨L, fun pre en T => T = S ∧ ∃ (fs : List Nat) (b : Nat) (y2 : Option D), en = [some (.tup [.int w, .int d, .int l, .int m]), some (oD os), y2, some (.int l), some (.int m), some (.lst (nD fs)), some (.int b)] ∧
    b ≤ os.length ∧ fs ++ GG L os.length l m b = GG L os.length l m 0 ∧ (∀ x ∈ pre, x < b + l) ∧ fs.length ≤ b, ?_, rfl, ⟨rfl, [], 0, none, rfl, by omega, rfl, (fun x h => by simp at h), by simp⟩, (fun pre x suf en T e h => ?_), fun en T h => ?_⟩
  · rw [← hL]
    show walk S .ex [.lst (nD (mks os w d os.length) ++ [D.int (os.length : Nat)])] = some (nD (mks os w d os.length ++ [os.length]))
    rw [nD_app]
    rfl
  · obtain ⟨rfl, fs, b, y2, rfl, hb, hg, hp, hf⟩ := h
    have hxn : x ≤ os.length := hle x (by rw [e]; simp)
    have hsu : ∀ y ∈ suf, x ≤ y := pw_le (by rw [← e]; exact hso)
    simp only [bodyF, Int.cast_ofNat_Int, evSs_cons, evSs_none, nxt_nx, nxt_ret, retQ_ret, retQ_nx, W_ok, W_bind, bind_ok', lift_some, cup_view, vw_non, vw_int, vw_bl, vw_str, vw_tup, vw_lst, wipeE, evS.eq_1, evS.eq_2, evS.eq_3, evS.eq_4, evS.eq_5, evS.eq_6, evS.eq_7, evS.eq_8, evS.eq_9, evS.eq_10, evS.eq_11, evE.eq_1, evE.eq_2, evE.eq_3, evE.eq_4, evE.eq_5, evE.eq_6, evE.eq_7, evE.eq_8, evE.eq_9, evE.eq_10, evE.eq_11, evE.eq_12, evE.eq_13, evE.eq_14, evE.eq_15, evE.eq_16, evE.eq_17, evE.eq_18, evE.eq_19, evEs, evO, evC, builtin.eq_1, builtin.eq_2, builtin.eq_3, builtin.eq_4, builtin.eq_5, builtin.eq_6, builtin.eq_7, builtin.eq_8, builtin.eq_9, builtin.eq_10, builtin.eq_11, builtin.eq_12, builtin.eq_13, builtin.eq_14, builtin.eq_15, builtin.eq_16, builtin.eq_17, builtin.eq_18, builtin.eq_19, builtin.eq_20, builtin.eq_21, builtin.eq_22, builtin.eq_23, builtin.eq_24, builtin.eq_25, builtin.eq_26, builtin.eq_27, builtin.eq_28, builtin.eq_29, builtin.eq_30, builtin.eq_31, builtin.eq_32, builtin.eq_33, builtin.eq_34, builtin.eq_35, builtin.eq_36, builtin.eq_37, builtin.eq_38, builtin.eq_39, builtin.eq_40, builtin.eq_41, builtin.eq_42, builtin.eq_43, binop.eq_1, binop.eq_2, binop.eq_3, binop.eq_4, binop.eq_5, binop.eq_6, binop.eq_7, binop.eq_8, binop.eq_9, binop.eq_10, binop.eq_11, binop.eq_12, cmpop.eq_1, cmpop.eq_2, cmpop.eq_3, cmpop.eq_4, cmpop.eq_5, cmpop.eq_6, cmpop.eq_7, cmpop.eq_8, cmpop.eq_9, cmpop.eq_10, cmpop.eq_11, cmpop.eq_12, cmpop.eq_13, cmpop.eq_14, cmpop.eq_15, cmpop.eq_16, cmpop.eq_17, cmpop.eq_18, cmpop.eq_19, isScalar, Tg.put.eq_1, Tg.put.eq_2, Tg.puts.eq_1, Tg.puts.eq_2, Nat.zero_le, List.set_cons_zero, List.set_cons_succ, List.getElem?_cons_zero, List.getElem?_cons_succ, List.map_cons, List.map_nil, List.cons_append, List.nil_append, List.replicate_succ, List.replicate_zero, Option.map_some, Option.map_none, Option.bind_some, if_true, if_false, Bool.not_true, Bool.not_false, Nat.sub_self, List.length_cons, List.length_nil, Bool.false_eq_true, reduceCtorEq, and_self, and_true, true_and, decide_true, decide_false, Int.reduceLT, Int.reduceLE, Int.reduceEq, Nat.reduceLeDiff, Nat.reduceAdd, eqOk_ii, eqv_ii, eqOk_ss, eqv_ss, ltOk_ii, lt_ii, l1, l2, l3, l4, Nat.zero_add, eq_self,  Bool.and_self, Bool.and_true, Bool.true_and, List.append_nil]
    refine W_while (fun en U => U = T ∧ ∃ (fs : List Nat) (b : Nat), en = [some (.tup [.int w, .int d, .int l, .int m]), some (oD os), some (.int (x : Nat)), some (.int l), some (.int m), some (.lst (nD fs)), some (.int b)] ∧
      b ≤ os.length ∧ fs ++ GG L os.length l m b = GG L os.length l m 0 ∧ (∀ x ∈ pre, x < b + l) ∧ fs.length ≤ b) (fun en : Ly.Env => match en[6]? with | some (some (D.int z)) => 5001 - z.toNat | _ => 0) ⟨rfl, fs, b, rfl, hb, hg, hp, hf⟩ (by show 5001 - _ < fuel; unfold fuel; omega) fun en U h => ?_
    obtain ⟨rfl, fs, b, rfl, hb, hg, hp, hf⟩ := h
    by_cases hc : (m : Int) < (x : Nat) - (b : Nat)
    · refine .inr ⟨by simp only [Int.cast_ofNat_Int, evSs_cons, evSs_none, nxt_nx, nxt_ret, retQ_ret, retQ_nx, W_ok, W_bind, bind_ok', lift_some, cup_view, vw_non, vw_int, vw_bl, vw_str, vw_tup, vw_lst, wipeE, evS.eq_1, evS.eq_2, evS.eq_3, evS.eq_4, evS.eq_5, evS.eq_6, evS.eq_7, evS.eq_8, evS.eq_9, evS.eq_10, evS.eq_11, evE.eq_1, evE.eq_2, evE.eq_3, evE.eq_4, evE.eq_5, evE.eq_6, evE.eq_7, evE.eq_8, evE.eq_9, evE.eq_10, evE.eq_11, evE.eq_12, evE.eq_13, evE.eq_14, evE.eq_15, evE.eq_16, evE.eq_17, evE.eq_18, evE.eq_19, evEs, evO, evC, builtin.eq_1, builtin.eq_2, builtin.eq_3, builtin.eq_4, builtin.eq_5, builtin.eq_6, builtin.eq_7, builtin.eq_8, builtin.eq_9, builtin.eq_10, builtin.eq_11, builtin.eq_12, builtin.eq_13, builtin.eq_14, builtin.eq_15, builtin.eq_16, builtin.eq_17, builtin.eq_18, builtin.eq_19, builtin.eq_20, builtin.eq_21, builtin.eq_22, builtin.eq_23, builtin.eq_24, builtin.eq_25, builtin.eq_26, builtin.eq_27, builtin.eq_28, builtin.eq_29, builtin.eq_30, builtin.eq_31, builtin.eq_32, builtin.eq_33, builtin.eq_34, builtin.eq_35, builtin.eq_36, builtin.eq_37, builtin.eq_38, builtin.eq_39, builtin.eq_40, builtin.eq_41, builtin.eq_42, builtin.eq_43, binop.eq_1, binop.eq_2, binop.eq_3, binop.eq_4, binop.eq_5, binop.eq_6, binop.eq_7, binop.eq_8, binop.eq_9, binop.eq_10, binop.eq_11, binop.eq_12, cmpop.eq_1, cmpop.eq_2, cmpop.eq_3, cmpop.eq_4, cmpop.eq_5, cmpop.eq_6, cmpop.eq_7, cmpop.eq_8, cmpop.eq_9, cmpop.eq_10, cmpop.eq_11, cmpop.eq_12, cmpop.eq_13, cmpop.eq_14, cmpop.eq_15, cmpop.eq_16, cmpop.eq_17, cmpop.eq_18, cmpop.eq_19, isScalar, Tg.put.eq_1, Tg.put.eq_2, Tg.puts.eq_1, Tg.puts.eq_2, Nat.zero_le, List.set_cons_zero, List.set_cons_succ, List.getElem?_cons_zero, List.getElem?_cons_succ, List.map_cons, List.map_nil, List.cons_append, List.nil_append, List.replicate_succ, List.replicate_zero, Option.map_some, Option.map_none, Option.bind_some, if_true, if_false, Bool.not_true, Bool.not_false, Nat.sub_self, List.length_cons, List.length_nil, Bool.false_eq_true, reduceCtorEq, and_self, and_true, true_and, decide_true, decide_false, Int.reduceLT, Int.reduceLE, Int.reduceEq, Nat.reduceLeDiff, Nat.reduceAdd, eqOk_ii, eqv_ii, eqOk_ss, eqv_ss, ltOk_ii, lt_ii, l1, l2, l3, l4, Nat.zero_add, eq_self,  Bool.and_self, Bool.and_true, Bool.true_and, List.append_nil, hc], ?_⟩
      have hfl : (nD fs).length < line := by rw [nD_len]; unfold line; omega
      simp only [Int.cast_ofNat_Int, evSs_cons, evSs_none, nxt_nx, nxt_ret, retQ_ret, retQ_nx, W_ok, W_bind, bind_ok', lift_some, cup_view, vw_non, vw_int, vw_bl, vw_str, vw_tup, vw_lst, wipeE, evS.eq_1, evS.eq_2, evS.eq_3, evS.eq_4, evS.eq_5, evS.eq_6, evS.eq_7, evS.eq_8, evS.eq_9, evS.eq_10, evS.eq_11, evE.eq_1, evE.eq_2, evE.eq_3, evE.eq_4, evE.eq_5, evE.eq_6, evE.eq_7, evE.eq_8, evE.eq_9, evE.eq_10, evE.eq_11, evE.eq_12, evE.eq_13, evE.eq_14, evE.eq_15, evE.eq_16, evE.eq_17, evE.eq_18, evE.eq_19, evEs, evO, evC, builtin.eq_1, builtin.eq_2, builtin.eq_3, builtin.eq_4, builtin.eq_5, builtin.eq_6, builtin.eq_7, builtin.eq_8, builtin.eq_9, builtin.eq_10, builtin.eq_11, builtin.eq_12, builtin.eq_13, builtin.eq_14, builtin.eq_15, builtin.eq_16, builtin.eq_17, builtin.eq_18, builtin.eq_19, builtin.eq_20, builtin.eq_21, builtin.eq_22, builtin.eq_23, builtin.eq_24, builtin.eq_25, builtin.eq_26, builtin.eq_27, builtin.eq_28, builtin.eq_29, builtin.eq_30, builtin.eq_31, builtin.eq_32, builtin.eq_33, builtin.eq_34, builtin.eq_35, builtin.eq_36, builtin.eq_37, builtin.eq_38, builtin.eq_39, builtin.eq_40, builtin.eq_41, builtin.eq_42, builtin.eq_43, binop.eq_1, binop.eq_2, binop.eq_3, binop.eq_4, binop.eq_5, binop.eq_6, binop.eq_7, binop.eq_8, binop.eq_9, binop.eq_10, binop.eq_11, binop.eq_12, cmpop.eq_1, cmpop.eq_2, cmpop.eq_3, cmpop.eq_4, cmpop.eq_5, cmpop.eq_6, cmpop.eq_7, cmpop.eq_8, cmpop.eq_9, cmpop.eq_10, cmpop.eq_11, cmpop.eq_12, cmpop.eq_13, cmpop.eq_14, cmpop.eq_15, cmpop.eq_16, cmpop.eq_17, cmpop.eq_18, cmpop.eq_19, isScalar, Tg.put.eq_1, Tg.put.eq_2, Tg.puts.eq_1, Tg.puts.eq_2, Nat.zero_le, List.set_cons_zero, List.set_cons_succ, List.getElem?_cons_zero, List.getElem?_cons_succ, List.map_cons, List.map_nil, List.cons_append, List.nil_append, List.replicate_succ, List.replicate_zero, Option.map_some, Option.map_none, Option.bind_some, if_true, if_false, Bool.not_true, Bool.not_false, Nat.sub_self, List.length_cons, List.length_nil, Bool.false_eq_true, reduceCtorEq, and_self, and_true, true_and, decide_true, decide_false, Int.reduceLT, Int.reduceLE, Int.reduceEq, Nat.reduceLeDiff, Nat.reduceAdd, eqOk_ii, eqv_ii, eqOk_ss, eqv_ss, ltOk_ii, lt_ii, l1, l2, l3, l4, Nat.zero_add, eq_self,  Bool.and_self, Bool.and_true, Bool.true_and, List.append_nil, hfl]
      have hn : nxc L os.length l m b = b + m := by
        rw [nxc_none fun y hy => ?_]
        · omega
        · rw [e] at hy
          rcases List.mem_append.mp hy with hy | hy
          · exact .inl (hp y hy)
          · rcases List.mem_cons.mp hy with rfl | hy
            · omega
            · have := hsu y hy; omega
      refine ⟨⟨fs ++ [b + m], b + m, ?_, by omega, ?_, fun y hy => by have := hp y hy; omega, by rw [List.length_append, List.length_singleton]; omega⟩, ?_⟩
      · rw [nD_app]; rfl
      · rw [← hg, GG_lt (b := b) hl1 hlm (by omega), hn, List.append_assoc]; rfl
      · show 5001 - ((b : Int) + m).toNat < 5001 - (b : Int).toNat
        omega
    · refine .inl ⟨by simp only [Int.cast_ofNat_Int, evSs_cons, evSs_none, nxt_nx, nxt_ret, retQ_ret, retQ_nx, W_ok, W_bind, bind_ok', lift_some, cup_view, vw_non, vw_int, vw_bl, vw_str, vw_tup, vw_lst, wipeE, evS.eq_1, evS.eq_2, evS.eq_3, evS.eq_4, evS.eq_5, evS.eq_6, evS.eq_7, evS.eq_8, evS.eq_9, evS.eq_10, evS.eq_11, evE.eq_1, evE.eq_2, evE.eq_3, evE.eq_4, evE.eq_5, evE.eq_6, evE.eq_7, evE.eq_8, evE.eq_9, evE.eq_10, evE.eq_11, evE.eq_12, evE.eq_13, evE.eq_14, evE.eq_15, evE.eq_16, evE.eq_17, evE.eq_18, evE.eq_19, evEs, evO, evC, builtin.eq_1, builtin.eq_2, builtin.eq_3, builtin.eq_4, builtin.eq_5, builtin.eq_6, builtin.eq_7, builtin.eq_8, builtin.eq_9, builtin.eq_10, builtin.eq_11, builtin.eq_12, builtin.eq_13, builtin.eq_14, builtin.eq_15, builtin.eq_16, builtin.eq_17, builtin.eq_18, builtin.eq_19, builtin.eq_20, builtin.eq_21, builtin.eq_22, builtin.eq_23, builtin.eq_24, builtin.eq_25, builtin.eq_26, builtin.eq_27, builtin.eq_28, builtin.eq_29, builtin.eq_30, builtin.eq_31, builtin.eq_32, builtin.eq_33, builtin.eq_34, builtin.eq_35, builtin.eq_36, builtin.eq_37, builtin.eq_38, builtin.eq_39, builtin.eq_40, builtin.eq_41, builtin.eq_42, builtin.eq_43, binop.eq_1, binop.eq_2, binop.eq_3, binop.eq_4, binop.eq_5, binop.eq_6, binop.eq_7, binop.eq_8, binop.eq_9, binop.eq_10, binop.eq_11, binop.eq_12, cmpop.eq_1, cmpop.eq_2, cmpop.eq_3, cmpop.eq_4, cmpop.eq_5, cmpop.eq_6, cmpop.eq_7, cmpop.eq_8, cmpop.eq_9, cmpop.eq_10, cmpop.eq_11, cmpop.eq_12, cmpop.eq_13, cmpop.eq_14, cmpop.eq_15, cmpop.eq_16, cmpop.eq_17, cmpop.eq_18, cmpop.eq_19, isScalar, Tg.put.eq_1, Tg.put.eq_2, Tg.puts.eq_1, Tg.puts.eq_2, Nat.zero_le, List.set_cons_zero, List.set_cons_succ, List.getElem?_cons_zero, List.getElem?_cons_succ, List.map_cons, List.map_nil, List.cons_append, List.nil_append, List.replicate_succ, List.replicate_zero, Option.map_some, Option.map_none, Option.bind_some, if_true, if_false, Bool.not_true, Bool.not_false, Nat.sub_self, List.length_cons, List.length_nil, Bool.false_eq_true, reduceCtorEq, and_self, and_true, true_and, decide_true, decide_false, Int.reduceLT, Int.reduceLE, Int.reduceEq, Nat.reduceLeDiff, Nat.reduceAdd, eqOk_ii, eqv_ii, eqOk_ss, eqv_ss, ltOk_ii, lt_ii, l1, l2, l3, l4, Nat.zero_add, eq_self,  Bool.and_self, Bool.and_true, Bool.true_and, List.append_nil, hc], ?_⟩
      have hfl : (nD fs).length < line := by rw [nD_len]; unfold line; omega
      by_cases hd : (l : Int) ≤ (x : Nat) - (b : Nat)
      · simp only [Int.cast_ofNat_Int, evSs_cons, evSs_none, nxt_nx, nxt_ret, retQ_ret, retQ_nx, W_ok, W_bind, bind_ok', lift_some, cup_view, vw_non, vw_int, vw_bl, vw_str, vw_tup, vw_lst, wipeE, evS.eq_1, evS.eq_2, evS.eq_3, evS.eq_4, evS.eq_5, evS.eq_6, evS.eq_7, evS.eq_8, evS.eq_9, evS.eq_10, evS.eq_11, evE.eq_1, evE.eq_2, evE.eq_3, evE.eq_4, evE.eq_5, evE.eq_6, evE.eq_7, evE.eq_8, evE.eq_9, evE.eq_10, evE.eq_11, evE.eq_12, evE.eq_13, evE.eq_14, evE.eq_15, evE.eq_16, evE.eq_17, evE.eq_18, evE.eq_19, evEs, evO, evC, builtin.eq_1, builtin.eq_2, builtin.eq_3, builtin.eq_4, builtin.eq_5, builtin.eq_6, builtin.eq_7, builtin.eq_8, builtin.eq_9, builtin.eq_10, builtin.eq_11, builtin.eq_12, builtin.eq_13, builtin.eq_14, builtin.eq_15, builtin.eq_16, builtin.eq_17, builtin.eq_18, builtin.eq_19, builtin.eq_20, builtin.eq_21, builtin.eq_22, builtin.eq_23, builtin.eq_24, builtin.eq_25, builtin.eq_26, builtin.eq_27, builtin.eq_28, builtin.eq_29, builtin.eq_30, builtin.eq_31, builtin.eq_32, builtin.eq_33, builtin.eq_34, builtin.eq_35, builtin.eq_36, builtin.eq_37, builtin.eq_38, builtin.eq_39, builtin.eq_40, builtin.eq_41, builtin.eq_42, builtin.eq_43, binop.eq_1, binop.eq_2, binop.eq_3, binop.eq_4, binop.eq_5, binop.eq_6, binop.eq_7, binop.eq_8, binop.eq_9, binop.eq_10, binop.eq_11, binop.eq_12, cmpop.eq_1, cmpop.eq_2, cmpop.eq_3, cmpop.eq_4, cmpop.eq_5, cmpop.eq_6, cmpop.eq_7, cmpop.eq_8, cmpop.eq_9, cmpop.eq_10, cmpop.eq_11, cmpop.eq_12, cmpop.eq_13, cmpop.eq_14, cmpop.eq_15, cmpop.eq_16, cmpop.eq_17, cmpop.eq_18, cmpop.eq_19, isScalar, Tg.put.eq_1, Tg.put.eq_2, Tg.puts.eq_1, Tg.puts.eq_2, Nat.zero_le, List.set_cons_zero, List.set_cons_succ, List.getElem?_cons_zero, List.getElem?_cons_succ, List.map_cons, List.map_nil, List.cons_append, List.nil_append, List.replicate_succ, List.replicate_zero, Option.map_some, Option.map_none, Option.bind_some, if_true, if_false, Bool.not_true, Bool.not_false, Nat.sub_self, List.length_cons, List.length_nil, Bool.false_eq_true, reduceCtorEq, and_self, and_true, true_and, decide_true, decide_false, Int.reduceLT, Int.reduceLE, Int.reduceEq, Nat.reduceLeDiff, Nat.reduceAdd, eqOk_ii, eqv_ii, eqOk_ss, eqv_ss, ltOk_ii, lt_ii, l1, l2, l3, l4, Nat.zero_add, eq_self,  Bool.and_self, Bool.and_true, Bool.true_and, List.append_nil, hd, hfl]
        have hn : nxc L os.length l m b = x := by
          rw [nxc_hit e hp (by omega) (by omega)]
          omega
        refine ⟨fs ++ [x], x, some (.int (x : Nat)), by rw [nD_app]; rfl, hxn, ?_, fun y hy => ?_, by rw [List.length_append, List.length_singleton]; omega⟩
        · rw [← hg, GG_lt (b := b) hl1 hlm (by omega), hn, List.append_assoc]; rfl
        · rcases List.mem_append.mp hy with hy | hy
          · have := hp y hy; omega
          · rw [List.mem_singleton.mp hy]; omega
      · simp only [Int.cast_ofNat_Int, evSs_cons, evSs_none, nxt_nx, nxt_ret, retQ_ret, retQ_nx, W_ok, W_bind, bind_ok', lift_some, cup_view, vw_non, vw_int, vw_bl, vw_str, vw_tup, vw_lst, wipeE, evS.eq_1, evS.eq_2, evS.eq_3, evS.eq_4, evS.eq_5, evS.eq_6, evS.eq_7, evS.eq_8, evS.eq_9, evS.eq_10, evS.eq_11, evE.eq_1, evE.eq_2, evE.eq_3, evE.eq_4, evE.eq_5, evE.eq_6, evE.eq_7, evE.eq_8, evE.eq_9, evE.eq_10, evE.eq_11, evE.eq_12, evE.eq_13, evE.eq_14, evE.eq_15, evE.eq_16, evE.eq_17, evE.eq_18, evE.eq_19, evEs, evO, evC, builtin.eq_1, builtin.eq_2, builtin.eq_3, builtin.eq_4, builtin.eq_5, builtin.eq_6, builtin.eq_7, builtin.eq_8, builtin.eq_9, builtin.eq_10, builtin.eq_11, builtin.eq_12, builtin.eq_13, builtin.eq_14, builtin.eq_15, builtin.eq_16, builtin.eq_17, builtin.eq_18, builtin.eq_19, builtin.eq_20, builtin.eq_21, builtin.eq_22, builtin.eq_23, builtin.eq_24, builtin.eq_25, builtin.eq_26, builtin.eq_27, builtin.eq_28, builtin.eq_29, builtin.eq_30, builtin.eq_31, builtin.eq_32, builtin.eq_33, builtin.eq_34, builtin.eq_35, builtin.eq_36, builtin.eq_37, builtin.eq_38, builtin.eq_39, builtin.eq_40, builtin.eq_41, builtin.eq_42, builtin.eq_43, binop.eq_1, binop.eq_2, binop.eq_3, binop.eq_4, binop.eq_5, binop.eq_6, binop.eq_7, binop.eq_8, binop.eq_9, binop.eq_10, binop.eq_11, binop.eq_12, cmpop.eq_1, cmpop.eq_2, cmpop.eq_3, cmpop.eq_4, cmpop.eq_5, cmpop.eq_6, cmpop.eq_7, cmpop.eq_8, cmpop.eq_9, cmpop.eq_10, cmpop.eq_11, cmpop.eq_12, cmpop.eq_13, cmpop.eq_14, cmpop.eq_15, cmpop.eq_16, cmpop.eq_17, cmpop.eq_18, cmpop.eq_19, isScalar, Tg.put.eq_1, Tg.put.eq_2, Tg.puts.eq_1, Tg.puts.eq_2, Nat.zero_le, List.set_cons_zero, List.set_cons_succ, List.getElem?_cons_zero, List.getElem?_cons_succ, List.map_cons, List.map_nil, List.cons_append, List.nil_append, List.replicate_succ, List.replicate_zero, Option.map_some, Option.map_none, Option.bind_some, if_true, if_false, Bool.not_true, Bool.not_false, Nat.sub_self, List.length_cons, List.length_nil, Bool.false_eq_true, reduceCtorEq, and_self, and_true, true_and, decide_true, decide_false, Int.reduceLT, Int.reduceLE, Int.reduceEq, Nat.reduceLeDiff, Nat.reduceAdd, eqOk_ii, eqv_ii, eqOk_ss, eqv_ss, ltOk_ii, lt_ii, l1, l2, l3, l4, Nat.zero_add, eq_self,  Bool.and_self, Bool.and_true, Bool.true_and, List.append_nil, hd]
        refine ⟨fs, b, some (.int (x : Nat)), rfl, hb, hg, fun y hy => ?_, hf⟩
        rcases List.mem_append.mp hy with hy | hy
        · exact hp y hy
        · rw [List.mem_singleton.mp hy]; omega
  · obtain ⟨rfl, fs, b, y2, rfl, hb, hg, hp, hf⟩ := h
    have h1 := hp _ hin
    by_cases hc : (b : Int) = (os.length : Nat)
    · have hc' : b = os.length := by omega
      rw [GG_ge (by omega), List.append_nil] at hg
      unfold oD
      simp only [Int.cast_ofNat_Int, evSs_cons, evSs_none, nxt_nx, nxt_ret, retQ_ret, retQ_nx, W_ok, W_bind, bind_ok', lift_some, cup_view, vw_non, vw_int, vw_bl, vw_str, vw_tup, vw_lst, wipeE, evS.eq_1, evS.eq_2, evS.eq_3, evS.eq_4, evS.eq_5, evS.eq_6, evS.eq_7, evS.eq_8, evS.eq_9, evS.eq_10, evS.eq_11, evE.eq_1, evE.eq_2, evE.eq_3, evE.eq_4, evE.eq_5, evE.eq_6, evE.eq_7, evE.eq_8, evE.eq_9, evE.eq_10, evE.eq_11, evE.eq_12, evE.eq_13, evE.eq_14, evE.eq_15, evE.eq_16, evE.eq_17, evE.eq_18, evE.eq_19, evEs, evO, evC, builtin.eq_1, builtin.eq_2, builtin.eq_3, builtin.eq_4, builtin.eq_5, builtin.eq_6, builtin.eq_7, builtin.eq_8, builtin.eq_9, builtin.eq_10, builtin.eq_11, builtin.eq_12, builtin.eq_13, builtin.eq_14, builtin.eq_15, builtin.eq_16, builtin.eq_17, builtin.eq_18, builtin.eq_19, builtin.eq_20, builtin.eq_21, builtin.eq_22, builtin.eq_23, builtin.eq_24, builtin.eq_25, builtin.eq_26, builtin.eq_27, builtin.eq_28, builtin.eq_29, builtin.eq_30, builtin.eq_31, builtin.eq_32, builtin.eq_33, builtin.eq_34, builtin.eq_35, builtin.eq_36, builtin.eq_37, builtin.eq_38, builtin.eq_39, builtin.eq_40, builtin.eq_41, builtin.eq_42, builtin.eq_43, binop.eq_1, binop.eq_2, binop.eq_3, binop.eq_4, binop.eq_5, binop.eq_6, binop.eq_7, binop.eq_8, binop.eq_9, binop.eq_10, binop.eq_11, binop.eq_12, cmpop.eq_1, cmpop.eq_2, cmpop.eq_3, cmpop.eq_4, cmpop.eq_5, cmpop.eq_6, cmpop.eq_7, cmpop.eq_8, cmpop.eq_9, cmpop.eq_10, cmpop.eq_11, cmpop.eq_12, cmpop.eq_13, cmpop.eq_14, cmpop.eq_15, cmpop.eq_16, cmpop.eq_17, cmpop.eq_18, cmpop.eq_19, isScalar, Tg.put.eq_1, Tg.put.eq_2, Tg.puts.eq_1, Tg.puts.eq_2, Nat.zero_le, List.set_cons_zero, List.set_cons_succ, List.getElem?_cons_zero, List.getElem?_cons_succ, List.map_cons, List.map_nil, List.cons_append, List.nil_append, List.replicate_succ, List.replicate_zero, Option.map_some, Option.map_none, Option.bind_some, if_true, if_false, Bool.not_true, Bool.not_false, Nat.sub_self, List.length_cons, List.length_nil, Bool.false_eq_true, reduceCtorEq, and_self, and_true, true_and, decide_true, decide_false, Int.reduceLT, Int.reduceLE, Int.reduceEq, Nat.reduceLeDiff, Nat.reduceAdd, eqOk_ii, eqv_ii, eqOk_ss, eqv_ss, ltOk_ii, lt_ii, l1, l2, l3, l4, Nat.zero_add, eq_self,  Bool.and_self, Bool.and_true, Bool.true_and, List.append_nil, List.length_map, hc]
      rw [hg]
    · have hfl : (nD fs).length + 1 ≤ line := by rw [nD_len]; unfold line; omega
      unfold oD
      simp only [Int.cast_ofNat_Int, evSs_cons, evSs_none, nxt_nx, nxt_ret, retQ_ret, retQ_nx, W_ok, W_bind, bind_ok', lift_some, cup_view, vw_non, vw_int, vw_bl, vw_str, vw_tup, vw_lst, wipeE, evS.eq_1, evS.eq_2, evS.eq_3, evS.eq_4, evS.eq_5, evS.eq_6, evS.eq_7, evS.eq_8, evS.eq_9, evS.eq_10, evS.eq_11, evE.eq_1, evE.eq_2, evE.eq_3, evE.eq_4, evE.eq_5, evE.eq_6, evE.eq_7, evE.eq_8, evE.eq_9, evE.eq_10, evE.eq_11, evE.eq_12, evE.eq_13, evE.eq_14, evE.eq_15, evE.eq_16, evE.eq_17, evE.eq_18, evE.eq_19, evEs, evO, evC, builtin.eq_1, builtin.eq_2, builtin.eq_3, builtin.eq_4, builtin.eq_5, builtin.eq_6, builtin.eq_7, builtin.eq_8, builtin.eq_9, builtin.eq_10, builtin.eq_11, builtin.eq_12, builtin.eq_13, builtin.eq_14, builtin.eq_15, builtin.eq_16, builtin.eq_17, builtin.eq_18, builtin.eq_19, builtin.eq_20, builtin.eq_21, builtin.eq_22, builtin.eq_23, builtin.eq_24, builtin.eq_25, builtin.eq_26, builtin.eq_27, builtin.eq_28, builtin.eq_29, builtin.eq_30, builtin.eq_31, builtin.eq_32, builtin.eq_33, builtin.eq_34, builtin.eq_35, builtin.eq_36, builtin.eq_37, builtin.eq_38, builtin.eq_39, builtin.eq_40, builtin.eq_41, builtin.eq_42, builtin.eq_43, binop.eq_1, binop.eq_2, binop.eq_3, binop.eq_4, binop.eq_5, binop.eq_6, binop.eq_7, binop.eq_8, binop.eq_9, binop.eq_10, binop.eq_11, binop.eq_12, cmpop.eq_1, cmpop.eq_2, cmpop.eq_3, cmpop.eq_4, cmpop.eq_5, cmpop.eq_6, cmpop.eq_7, cmpop.eq_8, cmpop.eq_9, cmpop.eq_10, cmpop.eq_11, cmpop.eq_12, cmpop.eq_13, cmpop.eq_14, cmpop.eq_15, cmpop.eq_16, cmpop.eq_17, cmpop.eq_18, cmpop.eq_19, isScalar, Tg.put.eq_1, Tg.put.eq_2, Tg.puts.eq_1, Tg.puts.eq_2, Nat.zero_le, List.set_cons_zero, List.set_cons_succ, List.getElem?_cons_zero, List.getElem?_cons_succ, List.map_cons, List.map_nil, List.cons_append, List.nil_append, List.replicate_succ, List.replicate_zero, Option.map_some, Option.map_none, Option.bind_some, if_true, if_false, Bool.not_true, Bool.not_false, Nat.sub_self, List.length_cons, List.length_nil, Bool.false_eq_true, reduceCtorEq, and_self, and_true, true_and, decide_true, decide_false, Int.reduceLT, Int.reduceLE, Int.reduceEq, Nat.reduceLeDiff, Nat.reduceAdd, eqOk_ii, eqv_ii, eqOk_ss, eqv_ss, ltOk_ii, lt_ii, l1, l2, l3, l4, Nat.zero_add, eq_self,  Bool.and_self, Bool.and_true, Bool.true_and, List.append_nil, List.length_map, hc, hfl]
      have hn : nxc L os.length l m b = os.length := by
        rw [nxc_none fun y hy => .inl (hp y hy)]
        omega
      rw [GG_lt hl1 hlm (by omega), hn, GG_ge (Nat.le_refl _)] at hg
      rw [← hg, nD_app]
      rfl
end
theorem nD_ints (ns : List Nat) : nD ns = (ns.map fun (n : Nat) => (n : Int)).map .int := by
  unfold nD
  rw [List.map_map]
  rfl
theorem ne_nilN (ns : List Nat) : cmpop .ne (.lst (nD ns)) (.lst []) = some (!decide (ns = [])) := by
  rw [nD_ints, ne_nilL]
  cases ns <;> simp
theorem nil_listN (ns : List Nat) : eqOk (.lst (nD ns)) (.lst []) = true ∧ D.eqv (.lst (nD ns)) (.lst []) = decide (ns = []) := by
  rw [nD_ints]
  have := nil_list (ns.map fun (n : Nat) => (n : Int))
  refine ⟨this.1, this.2.trans ?_⟩
  cases ns <;> simp
theorem min2 (a b : Nat) : Option.map D.int ((allInt [.int (a : Int), .int (b : Int)]).bind minI) = some (.int ((min a b : Nat) : Int)) := by
  have : Option.map D.int ((allInt [.int (a : Int), .int (b : Int)]).bind minI) = some (.int (if (b : Int) < a then (b : Int) else a)) := id rfl
  rw [this]
  congr 2
  split <;> omega
section
variable {k : Nat} {S : Sto}
theorem r_law_cuts (hk : 2 ≤ k) {r : Ru} (hr : r.Ok) {os : List Int} (hl : os.length ≤ 5000) : callP prog k "_law_cuts" [r.D, oD os] S = .ok (.tup (nD (cutsL os r))) S := by
  apply W.eq
  refine W_call (by omega) rfl rfl fun j hj => ?_
  have hmk : callP prog j "_law_marks" [r.D, oD os] S = _ := r_law_marks (show 1 ≤ j by omega) hr hl
  have hl1 := hr.l1
  have hlm := hr.m1
  have hm5 := hr.m2
  unfold cutsL
  obtain ⟨w, d, l, m⟩ := r
  simp only at hl1 hlm hm5
  unfold Ru.D at *
  simp only at *
  simp only [f__law_cuts, Int.cast_ofNat_Int, evSs_cons, evSs_none, nxt_nx, nxt_ret, retQ_ret, retQ_nx, W_ok, W_bind, bind_ok', lift_some, cup_view, vw_non, vw_int, vw_bl, vw_str, vw_tup, vw_lst, wipeE, evS.eq_1, evS.eq_2, evS.eq_3, evS.eq_4, evS.eq_5, evS.eq_6, evS.eq_7, evS.eq_8, evS.eq_9, evS.eq_10, evS.eq_11, evE.eq_1, evE.eq_2, evE.eq_3, evE.eq_4, evE.eq_5, evE.eq_6, evE.eq_7, evE.eq_8, evE.eq_9, evE.eq_10, evE.eq_11, evE.eq_12, evE.eq_13, evE.eq_14, evE.eq_15, evE.eq_16, evE.eq_17, evE.eq_18, evE.eq_19, evEs, evO, evC, builtin.eq_1, builtin.eq_2, builtin.eq_3, builtin.eq_4, builtin.eq_5, builtin.eq_6, builtin.eq_7, builtin.eq_8, builtin.eq_9, builtin.eq_10, builtin.eq_11, builtin.eq_12, builtin.eq_13, builtin.eq_14, builtin.eq_15, builtin.eq_16, builtin.eq_17, builtin.eq_18, builtin.eq_19, builtin.eq_20, builtin.eq_21, builtin.eq_22, builtin.eq_23, builtin.eq_24, builtin.eq_25, builtin.eq_26, builtin.eq_27, builtin.eq_28, builtin.eq_29, builtin.eq_30, builtin.eq_31, builtin.eq_32, builtin.eq_33, builtin.eq_34, builtin.eq_35, builtin.eq_36, builtin.eq_37, builtin.eq_38, builtin.eq_39, builtin.eq_40, builtin.eq_41, builtin.eq_42, builtin.eq_43, binop.eq_1, binop.eq_2, binop.eq_3, binop.eq_4, binop.eq_5, binop.eq_6, binop.eq_7, binop.eq_8, binop.eq_9, binop.eq_10, binop.eq_11, binop.eq_12, cmpop.eq_1, cmpop.eq_2, cmpop.eq_3, cmpop.eq_4, cmpop.eq_5, cmpop.eq_6, cmpop.eq_7, cmpop.eq_8, cmpop.eq_9, cmpop.eq_10, cmpop.eq_11, cmpop.eq_12, cmpop.eq_13, cmpop.eq_14, cmpop.eq_15, cmpop.eq_16, cmpop.eq_17, cmpop.eq_18, cmpop.eq_19, isScalar, Tg.put.eq_1, Tg.put.eq_2, Tg.puts.eq_1, Tg.puts.eq_2, Nat.zero_le, List.set_cons_zero, List.set_cons_succ, List.getElem?_cons_zero, List.getElem?_cons_succ, List.map_cons, List.map_nil, List.cons_append, List.nil_append, List.replicate_succ, List.replicate_zero, Option.map_some, Option.map_none, Option.bind_some, if_true, if_false, Bool.not_true, Bool.not_false, Nat.sub_self, List.length_cons, List.length_nil, Bool.false_eq_true, reduceCtorEq, and_self, and_true, true_and, decide_true, decide_false, Int.reduceLT, Int.reduceLE, Int.reduceEq, Nat.reduceLeDiff, Nat.reduceAdd, eqOk_ii, eqv_ii, eqOk_ss, eqv_ss, ltOk_ii, lt_ii, l1, l2, l3, l4, Nat.zero_add, eq_self,  Bool.and_self, Bool.and_true, Bool.true_and, List.append_nil, hmk, Nat.zero_le]
  have hml := mks_len os w d os.length
  generalize mks os w d os.length = ms at *
  refine W_while (fun en U => U = S ∧ ∃ (fs : List Nat) (b : Nat) (y5 : Option D), en = [some (.tup [.int w, .int d, .int l, .int m]), some (oD os), some (.tup (nD fs)), some (.int b), some (.tup (nD ms)), y5, none] ∧
    b ≤ os.length ∧ fs ++ GG (ms ++ [os.length]) os.length l m b = GG (ms ++ [os.length]) os.length l m 0 ∧ fs.length ≤ b) (fun en : Ly.Env => match en[3]? with | some (some (D.int z)) => 5001 - z.toNat | _ => 0) ⟨rfl, [], 0, none, rfl, by omega, rfl, by simp⟩ (by show 5001 - _ < fuel; unfold fuel; omega) fun en U h => ?_
  obtain ⟨rfl, fs, b, y5, rfl, hb, hg, hf⟩ := h
  by_cases hc : (b : Int) < (os.length : Nat)
  · refine .inr ⟨by unfold oD; simp only [Int.cast_ofNat_Int, evSs_cons, evSs_none, nxt_nx, nxt_ret, retQ_ret, retQ_nx, W_ok, W_bind, bind_ok', lift_some, cup_view, vw_non, vw_int, vw_bl, vw_str, vw_tup, vw_lst, wipeE, evS.eq_1, evS.eq_2, evS.eq_3, evS.eq_4, evS.eq_5, evS.eq_6, evS.eq_7, evS.eq_8, evS.eq_9, evS.eq_10, evS.eq_11, evE.eq_1, evE.eq_2, evE.eq_3, evE.eq_4, evE.eq_5, evE.eq_6, evE.eq_7, evE.eq_8, evE.eq_9, evE.eq_10, evE.eq_11, evE.eq_12, evE.eq_13, evE.eq_14, evE.eq_15, evE.eq_16, evE.eq_17, evE.eq_18, evE.eq_19, evEs, evO, evC, builtin.eq_1, builtin.eq_2, builtin.eq_3, builtin.eq_4, builtin.eq_5, builtin.eq_6, builtin.eq_7, builtin.eq_8, builtin.eq_9, builtin.eq_10, builtin.eq_11, builtin.eq_12, builtin.eq_13, builtin.eq_14, builtin.eq_15, builtin.eq_16, builtin.eq_17, builtin.eq_18, builtin.eq_19, builtin.eq_20, builtin.eq_21, builtin.eq_22, builtin.eq_23, builtin.eq_24, builtin.eq_25, builtin.eq_26, builtin.eq_27, builtin.eq_28, builtin.eq_29, builtin.eq_30, builtin.eq_31, builtin.eq_32, builtin.eq_33, builtin.eq_34, builtin.eq_35, builtin.eq_36, builtin.eq_37, builtin.eq_38, builtin.eq_39, builtin.eq_40, builtin.eq_41, builtin.eq_42, builtin.eq_43, binop.eq_1, binop.eq_2, binop.eq_3, binop.eq_4, binop.eq_5, binop.eq_6, binop.eq_7, binop.eq_8, binop.eq_9, binop.eq_10, binop.eq_11, binop.eq_12, cmpop.eq_1, cmpop.eq_2, cmpop.eq_3, cmpop.eq_4, cmpop.eq_5, cmpop.eq_6, cmpop.eq_7, cmpop.eq_8, cmpop.eq_9, cmpop.eq_10, cmpop.eq_11, cmpop.eq_12, cmpop.eq_13, cmpop.eq_14, cmpop.eq_15, cmpop.eq_16, cmpop.eq_17, cmpop.eq_18, cmpop.eq_19, isScalar, Tg.put.eq_1, Tg.put.eq_2, Tg.puts.eq_1, Tg.puts.eq_2, Nat.zero_le, List.set_cons_zero, List.set_cons_succ, List.getElem?_cons_zero, List.getElem?_cons_succ, List.map_cons, List.map_nil, List.cons_append, List.nil_append, List.replicate_succ, List.replicate_zero, Option.map_some, Option.map_none, Option.bind_some, if_true, if_false, Bool.not_true, Bool.not_false, Nat.sub_self, List.length_cons, List.length_nil, Bool.false_eq_true, reduceCtorEq, and_self, and_true, true_and, decide_true, decide_false, Int.reduceLT, Int.reduceLE, Int.reduceEq, Nat.reduceLeDiff, Nat.reduceAdd, eqOk_ii, eqv_ii, eqOk_ss, eqv_ss, ltOk_ii, lt_ii, l1, l2, l3, l4, Nat.zero_add, eq_self,  Bool.and_self, Bool.and_true, Bool.true_and, List.append_nil, List.length_map, hc], ?_⟩
    have hcomp : evE (callP prog j) (.comp [6] (.nm 6) .ex [(.loc 4)] (some (.chain .le .le (.bin .add (.loc 3) (.idx (.loc 0) (.cst (.int 2)))) (.loc 6) (.bin .add (.loc 3) (.idx (.loc 0) (.cst (.int 3)))))) (.loc 6)) [some (.tup [.int w, .int d, .int l, .int m]), some (oD os), some (.tup (nD fs)), some (.int b), some (.tup (nD ms)), y5, none] U = .ok (.lst (nD (hits ms l m b))) U := by
      refine comp_keep (fun n : Nat => D.int (n : Int)) ms (fun x => decide (b + l ≤ x) && decide (x ≤ b + m)) (ds := [.tup (nD ms)]) (by simp only [Int.cast_ofNat_Int, evSs_cons, evSs_none, nxt_nx, nxt_ret, retQ_ret, retQ_nx, W_ok, W_bind, bind_ok', lift_some, cup_view, vw_non, vw_int, vw_bl, vw_str, vw_tup, vw_lst, wipeE, evS.eq_1, evS.eq_2, evS.eq_3, evS.eq_4, evS.eq_5, evS.eq_6, evS.eq_7, evS.eq_8, evS.eq_9, evS.eq_10, evS.eq_11, evE.eq_1, evE.eq_2, evE.eq_3, evE.eq_4, evE.eq_5, evE.eq_6, evE.eq_7, evE.eq_8, evE.eq_9, evE.eq_10, evE.eq_11, evE.eq_12, evE.eq_13, evE.eq_14, evE.eq_15, evE.eq_16, evE.eq_17, evE.eq_18, evE.eq_19, evEs, evO, evC, builtin.eq_1, builtin.eq_2, builtin.eq_3, builtin.eq_4, builtin.eq_5, builtin.eq_6, builtin.eq_7, builtin.eq_8, builtin.eq_9, builtin.eq_10, builtin.eq_11, builtin.eq_12, builtin.eq_13, builtin.eq_14, builtin.eq_15, builtin.eq_16, builtin.eq_17, builtin.eq_18, builtin.eq_19, builtin.eq_20, builtin.eq_21, builtin.eq_22, builtin.eq_23, builtin.eq_24, builtin.eq_25, builtin.eq_26, builtin.eq_27, builtin.eq_28, builtin.eq_29, builtin.eq_30, builtin.eq_31, builtin.eq_32, builtin.eq_33, builtin.eq_34, builtin.eq_35, builtin.eq_36, builtin.eq_37, builtin.eq_38, builtin.eq_39, builtin.eq_40, builtin.eq_41, builtin.eq_42, builtin.eq_43, binop.eq_1, binop.eq_2, binop.eq_3, binop.eq_4, binop.eq_5, binop.eq_6, binop.eq_7, binop.eq_8, binop.eq_9, binop.eq_10, binop.eq_11, binop.eq_12, cmpop.eq_1, cmpop.eq_2, cmpop.eq_3, cmpop.eq_4, cmpop.eq_5, cmpop.eq_6, cmpop.eq_7, cmpop.eq_8, cmpop.eq_9, cmpop.eq_10, cmpop.eq_11, cmpop.eq_12, cmpop.eq_13, cmpop.eq_14, cmpop.eq_15, cmpop.eq_16, cmpop.eq_17, cmpop.eq_18, cmpop.eq_19, isScalar, Tg.put.eq_1, Tg.put.eq_2, Tg.puts.eq_1, Tg.puts.eq_2, Nat.zero_le, List.set_cons_zero, List.set_cons_succ, List.getElem?_cons_zero, List.getElem?_cons_succ, List.map_cons, List.map_nil, List.cons_append, List.nil_append, List.replicate_succ, List.replicate_zero, Option.map_some, Option.map_none, Option.bind_some, if_true, if_false, Bool.not_true, Bool.not_false, Nat.sub_self, List.length_cons, List.length_nil, Bool.false_eq_true, reduceCtorEq, and_self, and_true, true_and, decide_true, decide_false, Int.reduceLT, Int.reduceLE, Int.reduceEq, Nat.reduceLeDiff, Nat.reduceAdd, eqOk_ii, eqv_ii, eqOk_ss, eqv_ss, ltOk_ii, lt_ii, l1, l2, l3, l4, Nat.zero_add, eq_self,  Bool.and_self, Bool.and_true, Bool.true_and, List.append_nil]) rfl rfl (by unfold line; omega) fun x hx => ?_
      by_cases h1 : b + l ≤ x
      · have h1' : (b : Int) + (l : Nat) ≤ (x : Nat) := by omega
        by_cases h2 : x ≤ b + m
        · have h2' : ((x : Nat) : Int) ≤ (b : Nat) + (m : Nat) := by omega
          simp only [bodyC, Int.cast_ofNat_Int, evSs_cons, evSs_none, nxt_nx, nxt_ret, retQ_ret, retQ_nx, W_ok, W_bind, bind_ok', lift_some, cup_view, vw_non, vw_int, vw_bl, vw_str, vw_tup, vw_lst, wipeE, evS.eq_1, evS.eq_2, evS.eq_3, evS.eq_4, evS.eq_5, evS.eq_6, evS.eq_7, evS.eq_8, evS.eq_9, evS.eq_10, evS.eq_11, evE.eq_1, evE.eq_2, evE.eq_3, evE.eq_4, evE.eq_5, evE.eq_6, evE.eq_7, evE.eq_8, evE.eq_9, evE.eq_10, evE.eq_11, evE.eq_12, evE.eq_13, evE.eq_14, evE.eq_15, evE.eq_16, evE.eq_17, evE.eq_18, evE.eq_19, evEs, evO, evC, builtin.eq_1, builtin.eq_2, builtin.eq_3, builtin.eq_4, builtin.eq_5, builtin.eq_6, builtin.eq_7, builtin.eq_8, builtin.eq_9, builtin.eq_10, builtin.eq_11, builtin.eq_12, builtin.eq_13, builtin.eq_14, builtin.eq_15, builtin.eq_16, builtin.eq_17, builtin.eq_18, builtin.eq_19, builtin.eq_20, builtin.eq_21, builtin.eq_22, builtin.eq_23, builtin.eq_24, builtin.eq_25, builtin.eq_26, builtin.eq_27, builtin.eq_28, builtin.eq_29, builtin.eq_30, builtin.eq_31, builtin.eq_32, builtin.eq_33, builtin.eq_34, builtin.eq_35, builtin.eq_36, builtin.eq_37, builtin.eq_38, builtin.eq_39, builtin.eq_40, builtin.eq_41, builtin.eq_42, builtin.eq_43, binop.eq_1, binop.eq_2, binop.eq_3, binop.eq_4, binop.eq_5, binop.eq_6, binop.eq_7, binop.eq_8, binop.eq_9, binop.eq_10, binop.eq_11, binop.eq_12, cmpop.eq_1, cmpop.eq_2, cmpop.eq_3, cmpop.eq_4, cmpop.eq_5, cmpop.eq_6, cmpop.eq_7, cmpop.eq_8, cmpop.eq_9, cmpop.eq_10, cmpop.eq_11, cmpop.eq_12, cmpop.eq_13, cmpop.eq_14, cmpop.eq_15, cmpop.eq_16, cmpop.eq_17, cmpop.eq_18, cmpop.eq_19, isScalar, Tg.put.eq_1, Tg.put.eq_2, Tg.puts.eq_1, Tg.puts.eq_2, Nat.zero_le, List.set_cons_zero, List.set_cons_succ, List.getElem?_cons_zero, List.getElem?_cons_succ, List.map_cons, List.map_nil, List.cons_append, List.nil_append, List.replicate_succ, List.replicate_zero, Option.map_some, Option.map_none, Option.bind_some, if_true, if_false, Bool.not_true, Bool.not_false, Nat.sub_self, List.length_cons, List.length_nil, Bool.false_eq_true, reduceCtorEq, and_self, and_true, true_and, decide_true, decide_false, Int.reduceLT, Int.reduceLE, Int.reduceEq, Nat.reduceLeDiff, Nat.reduceAdd, eqOk_ii, eqv_ii, eqOk_ss, eqv_ss, ltOk_ii, lt_ii, l1, l2, l3, l4, Nat.zero_add, eq_self,  Bool.and_self, Bool.and_true, Bool.true_and, List.append_nil, ix42, ix43, h1, h2, h1', h2']
        · have h2' : ¬ ((x : Nat) : Int) ≤ (b : Nat) + (m : Nat) := by omega
          simp only [bodyC, Int.cast_ofNat_Int, evSs_cons, evSs_none, nxt_nx, nxt_ret, retQ_ret, retQ_nx, W_ok, W_bind, bind_ok', lift_some, cup_view, vw_non, vw_int, vw_bl, vw_str, vw_tup, vw_lst, wipeE, evS.eq_1, evS.eq_2, evS.eq_3, evS.eq_4, evS.eq_5, evS.eq_6, evS.eq_7, evS.eq_8, evS.eq_9, evS.eq_10, evS.eq_11, evE.eq_1, evE.eq_2, evE.eq_3, evE.eq_4, evE.eq_5, evE.eq_6, evE.eq_7, evE.eq_8, evE.eq_9, evE.eq_10, evE.eq_11, evE.eq_12, evE.eq_13, evE.eq_14, evE.eq_15, evE.eq_16, evE.eq_17, evE.eq_18, evE.eq_19, evEs, evO, evC, builtin.eq_1, builtin.eq_2, builtin.eq_3, builtin.eq_4, builtin.eq_5, builtin.eq_6, builtin.eq_7, builtin.eq_8, builtin.eq_9, builtin.eq_10, builtin.eq_11, builtin.eq_12, builtin.eq_13, builtin.eq_14, builtin.eq_15, builtin.eq_16, builtin.eq_17, builtin.eq_18, builtin.eq_19, builtin.eq_20, builtin.eq_21, builtin.eq_22, builtin.eq_23, builtin.eq_24, builtin.eq_25, builtin.eq_26, builtin.eq_27, builtin.eq_28, builtin.eq_29, builtin.eq_30, builtin.eq_31, builtin.eq_32, builtin.eq_33, builtin.eq_34, builtin.eq_35, builtin.eq_36, builtin.eq_37, builtin.eq_38, builtin.eq_39, builtin.eq_40, builtin.eq_41, builtin.eq_42, builtin.eq_43, binop.eq_1, binop.eq_2, binop.eq_3, binop.eq_4, binop.eq_5, binop.eq_6, binop.eq_7, binop.eq_8, binop.eq_9, binop.eq_10, binop.eq_11, binop.eq_12, cmpop.eq_1, cmpop.eq_2, cmpop.eq_3, cmpop.eq_4, cmpop.eq_5, cmpop.eq_6, cmpop.eq_7, cmpop.eq_8, cmpop.eq_9, cmpop.eq_10, cmpop.eq_11, cmpop.eq_12, cmpop.eq_13, cmpop.eq_14, cmpop.eq_15, cmpop.eq_16, cmpop.eq_17, cmpop.eq_18, cmpop.eq_19, isScalar, Tg.put.eq_1, Tg.put.eq_2, Tg.puts.eq_1, Tg.puts.eq_2, Nat.zero_le, List.set_cons_zero, List.set_cons_succ, List.getElem?_cons_zero, List.getElem?_cons_succ, List.map_cons, List.map_nil, List.cons_append, List.nil_append, List.replicate_succ, List.replicate_zero, Option.map_some, Option.map_none, Option.bind_some, if_true, if_false, Bool.not_true, Bool.not_false, Nat.sub_self, List.length_cons, List.length_nil, Bool.false_eq_true, reduceCtorEq, and_self, and_true, true_and, decide_true, decide_false, Int.reduceLT, Int.reduceLE, Int.reduceEq, Nat.reduceLeDiff, Nat.reduceAdd, eqOk_ii, eqv_ii, eqOk_ss, eqv_ss, ltOk_ii, lt_ii, l1, l2, l3, l4, Nat.zero_add, eq_self,  Bool.and_self, Bool.and_true, Bool.true_and, List.append_nil, ix42, ix43, h1, h2, h1', h2']
      · have h1' : ¬ (b : Int) + (l : Nat) ≤ (x : Nat) := by omega
        simp only [bodyC, Int.cast_ofNat_Int, evSs_cons, evSs_none, nxt_nx, nxt_ret, retQ_ret, retQ_nx, W_ok, W_bind, bind_ok', lift_some, cup_view, vw_non, vw_int, vw_bl, vw_str, vw_tup, vw_lst, wipeE, evS.eq_1, evS.eq_2, evS.eq_3, evS.eq_4, evS.eq_5, evS.eq_6, evS.eq_7, evS.eq_8, evS.eq_9, evS.eq_10, evS.eq_11, evE.eq_1, evE.eq_2, evE.eq_3, evE.eq_4, evE.eq_5, evE.eq_6, evE.eq_7, evE.eq_8, evE.eq_9, evE.eq_10, evE.eq_11, evE.eq_12, evE.eq_13, evE.eq_14, evE.eq_15, evE.eq_16, evE.eq_17, evE.eq_18, evE.eq_19, evEs, evO, evC, builtin.eq_1, builtin.eq_2, builtin.eq_3, builtin.eq_4, builtin.eq_5, builtin.eq_6, builtin.eq_7, builtin.eq_8, builtin.eq_9, builtin.eq_10, builtin.eq_11, builtin.eq_12, builtin.eq_13, builtin.eq_14, builtin.eq_15, builtin.eq_16, builtin.eq_17, builtin.eq_18, builtin.eq_19, builtin.eq_20, builtin.eq_21, builtin.eq_22, builtin.eq_23, builtin.eq_24, builtin.eq_25, builtin.eq_26, builtin.eq_27, builtin.eq_28, builtin.eq_29, builtin.eq_30, builtin.eq_31, builtin.eq_32, builtin.eq_33, builtin.eq_34, builtin.eq_35, builtin.eq_36, builtin.eq_37, builtin.eq_38, builtin.eq_39, builtin.eq_40, builtin.eq_41, builtin.eq_42, builtin.eq_43, binop.eq_1, binop.eq_2, binop.eq_3, binop.eq_4, binop.eq_5, binop.eq_6, binop.eq_7, binop.eq_8, binop.eq_9, binop.eq_10, binop.eq_11, binop.eq_12, cmpop.eq_1, cmpop.eq_2, cmpop.eq_3, cmpop.eq_4, cmpop.eq_5, cmpop.eq_6, cmpop.eq_7, cmpop.eq_8, cmpop.eq_9, cmpop.eq_10, cmpop.eq_11, cmpop.eq_12, cmpop.eq_13, cmpop.eq_14, cmpop.eq_15, cmpop.eq_16, cmpop.eq_17, cmpop.eq_18, cmpop.eq_19, isScalar, Tg.put.eq_1, Tg.put.eq_2, Tg.puts.eq_1, Tg.puts.eq_2, Nat.zero_le, List.set_cons_zero, List.set_cons_succ, List.getElem?_cons_zero, List.getElem?_cons_succ, List.map_cons, List.map_nil, List.cons_append, List.nil_append, List.replicate_succ, List.replicate_zero, Option.map_some, Option.map_none, Option.bind_some, if_true, if_false, Bool.not_true, Bool.not_false, Nat.sub_self, List.length_cons, List.length_nil, Bool.false_eq_true, reduceCtorEq, and_self, and_true, true_and, decide_true, decide_false, Int.reduceLT, Int.reduceLE, Int.reduceEq, Nat.reduceLeDiff, Nat.reduceAdd, eqOk_ii, eqv_ii, eqOk_ss, eqv_ss, ltOk_ii, lt_ii, l1, l2, l3, l4, Nat.zero_add, eq_self,  Bool.and_self, Bool.and_true, Bool.true_and, List.append_nil, ix42, ix43, h1, h1', Bool.false_and]
    have hfl : (nD fs).length + 1 ≤ line := by rw [nD_len]; unfold line; omega
    have hb1 : ((b : Nat) : Int) + (m : Nat) = ((b + m : Nat) : Int) := by omega
    have hn : nxc (ms ++ [os.length]) os.length l m b = min ((hits ms l m b).head?.getD (b + m)) os.length := nxc_last b
    have hgt := nxc_gt (L := ms ++ [os.length]) (n := os.length) (b := b) hl1 hlm (by omega)
    have hG := GG_lt (L := ms ++ [os.length]) (n := os.length) (b := b) hl1 hlm (by omega)
    rw [hG] at hg
    rw [hn] at hg hgt
    have fin : ∀ y5 : Option D, ∃ (fs' : List Nat) (b' : Nat) (y5' : Option D), ([some (.tup [.int w, .int d, .int l, .int m]), some (oD os), some (.tup (nD fs ++ [.int ((min ((hits ms l m b).head?.getD (b + m)) os.length : Nat) : Int)])), some (.int ((min ((hits ms l m b).head?.getD (b + m)) os.length : Nat) : Int)), some (.tup (nD ms)), y5, none] : List (Option D)) = [some (.tup [.int w, .int d, .int l, .int m]), some (oD os), some (.tup (nD fs')), some (.int b'), some (.tup (nD ms)), y5', none] ∧
        b' ≤ os.length ∧ fs' ++ GG (ms ++ [os.length]) os.length l m b' = GG (ms ++ [os.length]) os.length l m 0 ∧ fs'.length ≤ b' := fun y5 =>
      ⟨fs ++ [min ((hits ms l m b).head?.getD (b + m)) os.length], min ((hits ms l m b).head?.getD (b + m)) os.length, y5, by rw [nD_app]; rfl, by omega, by rw [List.append_assoc]; exact hg, by rw [List.length_append, List.length_singleton]; omega⟩
    have hlen : ((oD os)) = .tup (os.map .int) := rfl
    simp only [Int.cast_ofNat_Int, evSs_cons, evSs_none, nxt_nx, nxt_ret, retQ_ret, retQ_nx, W_ok, W_bind, bind_ok', lift_some, cup_view, vw_non, vw_int, vw_bl, vw_str, vw_tup, vw_lst, wipeE, evS.eq_1, evS.eq_2, evS.eq_3, evS.eq_4, evS.eq_5, evS.eq_6, evS.eq_7, evS.eq_8, evS.eq_9, evS.eq_10, evS.eq_11, evE.eq_1, evE.eq_2, evE.eq_3, evE.eq_4, evE.eq_5, evE.eq_6, evE.eq_7, evE.eq_8, evE.eq_9, evE.eq_10, evE.eq_11, evE.eq_12, evE.eq_13, evE.eq_14, evE.eq_15, evE.eq_16, evE.eq_17, evE.eq_18, evE.eq_19, evEs, evO, evC, builtin.eq_1, builtin.eq_2, builtin.eq_3, builtin.eq_4, builtin.eq_5, builtin.eq_6, builtin.eq_7, builtin.eq_8, builtin.eq_9, builtin.eq_10, builtin.eq_11, builtin.eq_12, builtin.eq_13, builtin.eq_14, builtin.eq_15, builtin.eq_16, builtin.eq_17, builtin.eq_18, builtin.eq_19, builtin.eq_20, builtin.eq_21, builtin.eq_22, builtin.eq_23, builtin.eq_24, builtin.eq_25, builtin.eq_26, builtin.eq_27, builtin.eq_28, builtin.eq_29, builtin.eq_30, builtin.eq_31, builtin.eq_32, builtin.eq_33, builtin.eq_34, builtin.eq_35, builtin.eq_36, builtin.eq_37, builtin.eq_38, builtin.eq_39, builtin.eq_40, builtin.eq_41, builtin.eq_42, builtin.eq_43, binop.eq_1, binop.eq_2, binop.eq_3, binop.eq_4, binop.eq_5, binop.eq_6, binop.eq_7, binop.eq_8, binop.eq_9, binop.eq_10, binop.eq_11, binop.eq_12, cmpop.eq_1, cmpop.eq_2, cmpop.eq_3, cmpop.eq_4, cmpop.eq_5, cmpop.eq_6, cmpop.eq_7, cmpop.eq_8, cmpop.eq_9, cmpop.eq_10, cmpop.eq_11, cmpop.eq_12, cmpop.eq_13, cmpop.eq_14, cmpop.eq_15, cmpop.eq_16, cmpop.eq_17, cmpop.eq_18, cmpop.eq_19, isScalar, Tg.put.eq_1, Tg.put.eq_2, Tg.puts.eq_1, Tg.puts.eq_2, Nat.zero_le, List.set_cons_zero, List.set_cons_succ, List.getElem?_cons_zero, List.getElem?_cons_succ, List.map_cons, List.map_nil, List.cons_append, List.nil_append, List.replicate_succ, List.replicate_zero, Option.map_some, Option.map_none, Option.bind_some, if_true, if_false, Bool.not_true, Bool.not_false, Nat.sub_self, List.length_cons, List.length_nil, Bool.false_eq_true, reduceCtorEq, and_self, and_true, true_and, decide_true, decide_false, Int.reduceLT, Int.reduceLE, Int.reduceEq, Nat.reduceLeDiff, Nat.reduceAdd, eqOk_ii, eqv_ii, eqOk_ss, eqv_ss, ltOk_ii, lt_ii, l1, l2, l3, l4, Nat.zero_add, eq_self,  Bool.and_self, Bool.and_true, Bool.true_and, List.append_nil, hcomp]
    cases e : hits ms l m b with
    | nil =>
      rw [e] at hgt fin
      have hcn := nil_listN []
      simp only [List.head?_nil, Option.getD_none] at hgt fin
      simp only [Int.cast_ofNat_Int, evSs_cons, evSs_none, nxt_nx, nxt_ret, retQ_ret, retQ_nx, W_ok, W_bind, bind_ok', lift_some, cup_view, vw_non, vw_int, vw_bl, vw_str, vw_tup, vw_lst, wipeE, evS.eq_1, evS.eq_2, evS.eq_3, evS.eq_4, evS.eq_5, evS.eq_6, evS.eq_7, evS.eq_8, evS.eq_9, evS.eq_10, evS.eq_11, evE.eq_1, evE.eq_2, evE.eq_3, evE.eq_4, evE.eq_5, evE.eq_6, evE.eq_7, evE.eq_8, evE.eq_9, evE.eq_10, evE.eq_11, evE.eq_12, evE.eq_13, evE.eq_14, evE.eq_15, evE.eq_16, evE.eq_17, evE.eq_18, evE.eq_19, evEs, evO, evC, builtin.eq_1, builtin.eq_2, builtin.eq_3, builtin.eq_4, builtin.eq_5, builtin.eq_6, builtin.eq_7, builtin.eq_8, builtin.eq_9, builtin.eq_10, builtin.eq_11, builtin.eq_12, builtin.eq_13, builtin.eq_14, builtin.eq_15, builtin.eq_16, builtin.eq_17, builtin.eq_18, builtin.eq_19, builtin.eq_20, builtin.eq_21, builtin.eq_22, builtin.eq_23, builtin.eq_24, builtin.eq_25, builtin.eq_26, builtin.eq_27, builtin.eq_28, builtin.eq_29, builtin.eq_30, builtin.eq_31, builtin.eq_32, builtin.eq_33, builtin.eq_34, builtin.eq_35, builtin.eq_36, builtin.eq_37, builtin.eq_38, builtin.eq_39, builtin.eq_40, builtin.eq_41, builtin.eq_42, builtin.eq_43, binop.eq_1, binop.eq_2, binop.eq_3, binop.eq_4, binop.eq_5, binop.eq_6, binop.eq_7, binop.eq_8, binop.eq_9, binop.eq_10, binop.eq_11, binop.eq_12, cmpop.eq_1, cmpop.eq_2, cmpop.eq_3, cmpop.eq_4, cmpop.eq_5, cmpop.eq_6, cmpop.eq_7, cmpop.eq_8, cmpop.eq_9, cmpop.eq_10, cmpop.eq_11, cmpop.eq_12, cmpop.eq_13, cmpop.eq_14, cmpop.eq_15, cmpop.eq_16, cmpop.eq_17, cmpop.eq_18, cmpop.eq_19, isScalar, Tg.put.eq_1, Tg.put.eq_2, Tg.puts.eq_1, Tg.puts.eq_2, Nat.zero_le, List.set_cons_zero, List.set_cons_succ, List.getElem?_cons_zero, List.getElem?_cons_succ, List.map_cons, List.map_nil, List.cons_append, List.nil_append, List.replicate_succ, List.replicate_zero, Option.map_some, Option.map_none, Option.bind_some, if_true, if_false, Bool.not_true, Bool.not_false, Nat.sub_self, List.length_cons, List.length_nil, Bool.false_eq_true, reduceCtorEq, and_self, and_true, true_and, decide_true, decide_false, Int.reduceLT, Int.reduceLE, Int.reduceEq, Nat.reduceLeDiff, Nat.reduceAdd, eqOk_ii, eqv_ii, eqOk_ss, eqv_ss, ltOk_ii, lt_ii, l1, l2, l3, l4, Nat.zero_add, eq_self,  Bool.and_self, Bool.and_true, Bool.true_and, List.append_nil, hcn.1, hcn.2, ix43, hlen, List.length_map, hb1, min2, hfl]
      exact ⟨fin _, by show 5001 - (((min (b + m) os.length : Nat) : Int)).toNat < 5001 - ((b : Int)).toNat; omega⟩
    | cons c cs =>
      rw [e] at hgt fin
      have hcn := nil_listN (c :: cs)
      have hi0 : idx (.lst (nD (c :: cs))) (.int 0) = some (.int (c : Int)) := by simp [nD, idx, atI, ixAt]
      simp only [List.head?_cons, Option.getD_some] at hgt fin
      simp only [Int.cast_ofNat_Int, evSs_cons, evSs_none, nxt_nx, nxt_ret, retQ_ret, retQ_nx, W_ok, W_bind, bind_ok', lift_some, cup_view, vw_non, vw_int, vw_bl, vw_str, vw_tup, vw_lst, wipeE, evS.eq_1, evS.eq_2, evS.eq_3, evS.eq_4, evS.eq_5, evS.eq_6, evS.eq_7, evS.eq_8, evS.eq_9, evS.eq_10, evS.eq_11, evE.eq_1, evE.eq_2, evE.eq_3, evE.eq_4, evE.eq_5, evE.eq_6, evE.eq_7, evE.eq_8, evE.eq_9, evE.eq_10, evE.eq_11, evE.eq_12, evE.eq_13, evE.eq_14, evE.eq_15, evE.eq_16, evE.eq_17, evE.eq_18, evE.eq_19, evEs, evO, evC, builtin.eq_1, builtin.eq_2, builtin.eq_3, builtin.eq_4, builtin.eq_5, builtin.eq_6, builtin.eq_7, builtin.eq_8, builtin.eq_9, builtin.eq_10, builtin.eq_11, builtin.eq_12, builtin.eq_13, builtin.eq_14, builtin.eq_15, builtin.eq_16, builtin.eq_17, builtin.eq_18, builtin.eq_19, builtin.eq_20, builtin.eq_21, builtin.eq_22, builtin.eq_23, builtin.eq_24, builtin.eq_25, builtin.eq_26, builtin.eq_27, builtin.eq_28, builtin.eq_29, builtin.eq_30, builtin.eq_31, builtin.eq_32, builtin.eq_33, builtin.eq_34, builtin.eq_35, builtin.eq_36, builtin.eq_37, builtin.eq_38, builtin.eq_39, builtin.eq_40, builtin.eq_41, builtin.eq_42, builtin.eq_43, binop.eq_1, binop.eq_2, binop.eq_3, binop.eq_4, binop.eq_5, binop.eq_6, binop.eq_7, binop.eq_8, binop.eq_9, binop.eq_10, binop.eq_11, binop.eq_12, cmpop.eq_1, cmpop.eq_2, cmpop.eq_3, cmpop.eq_4, cmpop.eq_5, cmpop.eq_6, cmpop.eq_7, cmpop.eq_8, cmpop.eq_9, cmpop.eq_10, cmpop.eq_11, cmpop.eq_12, cmpop.eq_13, cmpop.eq_14, cmpop.eq_15, cmpop.eq_16, cmpop.eq_17, cmpop.eq_18, cmpop.eq_19, isScalar, Tg.put.eq_1, Tg.put.eq_2, Tg.puts.eq_1, Tg.puts.eq_2, Nat.zero_le, List.set_cons_zero, List.set_cons_succ, List.getElem?_cons_zero, List.getElem?_cons_succ, List.map_cons, List.map_nil, List.cons_append, List.nil_append, List.replicate_succ, List.replicate_zero, Option.map_some, Option.map_none, Option.bind_some, if_true, if_false, Bool.not_true, Bool.not_false, Nat.sub_self, List.length_cons, List.length_nil, Bool.false_eq_true, reduceCtorEq, and_self, and_true, true_and, decide_true, decide_false, Int.reduceLT, Int.reduceLE, Int.reduceEq, Nat.reduceLeDiff, Nat.reduceAdd, eqOk_ii, eqv_ii, eqOk_ss, eqv_ss, ltOk_ii, lt_ii, l1, l2, l3, l4, Nat.zero_add, eq_self,  Bool.and_self, Bool.and_true, Bool.true_and, List.append_nil, hcn.1, hcn.2, hi0, ix43, hlen, List.length_map, hb1, min2, hfl]
      exact ⟨fin _, by show 5001 - (((min c os.length : Nat) : Int)).toNat < 5001 - ((b : Int)).toNat; omega⟩
  · refine .inl ⟨by unfold oD; simp only [Int.cast_ofNat_Int, evSs_cons, evSs_none, nxt_nx, nxt_ret, retQ_ret, retQ_nx, W_ok, W_bind, bind_ok', lift_some, cup_view, vw_non, vw_int, vw_bl, vw_str, vw_tup, vw_lst, wipeE, evS.eq_1, evS.eq_2, evS.eq_3, evS.eq_4, evS.eq_5, evS.eq_6, evS.eq_7, evS.eq_8, evS.eq_9, evS.eq_10, evS.eq_11, evE.eq_1, evE.eq_2, evE.eq_3, evE.eq_4, evE.eq_5, evE.eq_6, evE.eq_7, evE.eq_8, evE.eq_9, evE.eq_10, evE.eq_11, evE.eq_12, evE.eq_13, evE.eq_14, evE.eq_15, evE.eq_16, evE.eq_17, evE.eq_18, evE.eq_19, evEs, evO, evC, builtin.eq_1, builtin.eq_2, builtin.eq_3, builtin.eq_4, builtin.eq_5, builtin.eq_6, builtin.eq_7, builtin.eq_8, builtin.eq_9, builtin.eq_10, builtin.eq_11, builtin.eq_12, builtin.eq_13, builtin.eq_14, builtin.eq_15, builtin.eq_16, builtin.eq_17, builtin.eq_18, builtin.eq_19, builtin.eq_20, builtin.eq_21, builtin.eq_22, builtin.eq_23, builtin.eq_24, builtin.eq_25, builtin.eq_26, builtin.eq_27, builtin.eq_28, builtin.eq_29, builtin.eq_30, builtin.eq_31, builtin.eq_32, builtin.eq_33, builtin.eq_34, builtin.eq_35, builtin.eq_36, builtin.eq_37, builtin.eq_38, builtin.eq_39, builtin.eq_40, builtin.eq_41, builtin.eq_42, builtin.eq_43, binop.eq_1, binop.eq_2, binop.eq_3, binop.eq_4, binop.eq_5, binop.eq_6, binop.eq_7, binop.eq_8, binop.eq_9, binop.eq_10, binop.eq_11, binop.eq_12, cmpop.eq_1, cmpop.eq_2, cmpop.eq_3, cmpop.eq_4, cmpop.eq_5, cmpop.eq_6, cmpop.eq_7, cmpop.eq_8, cmpop.eq_9, cmpop.eq_10, cmpop.eq_11, cmpop.eq_12, cmpop.eq_13, cmpop.eq_14, cmpop.eq_15, cmpop.eq_16, cmpop.eq_17, cmpop.eq_18, cmpop.eq_19, isScalar, Tg.put.eq_1, Tg.put.eq_2, Tg.puts.eq_1, Tg.puts.eq_2, Nat.zero_le, List.set_cons_zero, List.set_cons_succ, List.getElem?_cons_zero, List.getElem?_cons_succ, List.map_cons, List.map_nil, List.cons_append, List.nil_append, List.replicate_succ, List.replicate_zero, Option.map_some, Option.map_none, Option.bind_some, if_true, if_false, Bool.not_true, Bool.not_false, Nat.sub_self, List.length_cons, List.length_nil, Bool.false_eq_true, reduceCtorEq, and_self, and_true, true_and, decide_true, decide_false, Int.reduceLT, Int.reduceLE, Int.reduceEq, Nat.reduceLeDiff, Nat.reduceAdd, eqOk_ii, eqv_ii, eqOk_ss, eqv_ss, ltOk_ii, lt_ii, l1, l2, l3, l4, Nat.zero_add, eq_self,  Bool.and_self, Bool.and_true, Bool.true_and, List.append_nil, List.length_map, hc], ?_⟩
    rw [GG_ge (by omega), List.append_nil] at hg
    simp only [Int.cast_ofNat_Int, evSs_cons, evSs_none, nxt_nx, nxt_ret, retQ_ret, retQ_nx, W_ok, W_bind, bind_ok', lift_some, cup_view, vw_non, vw_int, vw_bl, vw_str, vw_tup, vw_lst, wipeE, evS.eq_1, evS.eq_2, evS.eq_3, evS.eq_4, evS.eq_5, evS.eq_6, evS.eq_7, evS.eq_8, evS.eq_9, evS.eq_10, evS.eq_11, evE.eq_1, evE.eq_2, evE.eq_3, evE.eq_4, evE.eq_5, evE.eq_6, evE.eq_7, evE.eq_8, evE.eq_9, evE.eq_10, evE.eq_11, evE.eq_12, evE.eq_13, evE.eq_14, evE.eq_15, evE.eq_16, evE.eq_17, evE.eq_18, evE.eq_19, evEs, evO, evC, builtin.eq_1, builtin.eq_2, builtin.eq_3, builtin.eq_4, builtin.eq_5, builtin.eq_6, builtin.eq_7, builtin.eq_8, builtin.eq_9, builtin.eq_10, builtin.eq_11, builtin.eq_12, builtin.eq_13, builtin.eq_14, builtin.eq_15, builtin.eq_16, builtin.eq_17, builtin.eq_18, builtin.eq_19, builtin.eq_20, builtin.eq_21, builtin.eq_22, builtin.eq_23, builtin.eq_24, builtin.eq_25, builtin.eq_26, builtin.eq_27, builtin.eq_28, builtin.eq_29, builtin.eq_30, builtin.eq_31, builtin.eq_32, builtin.eq_33, builtin.eq_34, builtin.eq_35, builtin.eq_36, builtin.eq_37, builtin.eq_38, builtin.eq_39, builtin.eq_40, builtin.eq_41, builtin.eq_42, builtin.eq_43, binop.eq_1, binop.eq_2, binop.eq_3, binop.eq_4, binop.eq_5, binop.eq_6, binop.eq_7, binop.eq_8, binop.eq_9, binop.eq_10, binop.eq_11, binop.eq_12, cmpop.eq_1, cmpop.eq_2, cmpop.eq_3, cmpop.eq_4, cmpop.eq_5, cmpop.eq_6, cmpop.eq_7, cmpop.eq_8, cmpop.eq_9, cmpop.eq_10, cmpop.eq_11, cmpop.eq_12, cmpop.eq_13, cmpop.eq_14, cmpop.eq_15, cmpop.eq_16, cmpop.eq_17, cmpop.eq_18, cmpop.eq_19, isScalar, Tg.put.eq_1, Tg.put.eq_2, Tg.puts.eq_1, Tg.puts.eq_2, Nat.zero_le, List.set_cons_zero, List.set_cons_succ, List.getElem?_cons_zero, List.getElem?_cons_succ, List.map_cons, List.map_nil, List.cons_append, List.nil_append, List.replicate_succ, List.replicate_zero, Option.map_some, Option.map_none, Option.bind_some, if_true, if_false, Bool.not_true, Bool.not_false, Nat.sub_self, List.length_cons, List.length_nil, Bool.false_eq_true, reduceCtorEq, and_self, and_true, true_and, decide_true, decide_false, Int.reduceLT, Int.reduceLE, Int.reduceEq, Nat.reduceLeDiff, Nat.reduceAdd, eqOk_ii, eqv_ii, eqOk_ss, eqv_ss, ltOk_ii, lt_ii, l1, l2, l3, l4, Nat.zero_add, eq_self,  Bool.and_self, Bool.and_true, Bool.true_and, List.append_nil]
    rw [hg]
end
theorem zip_nD : ∀ (a b : List Nat), zipD (nD a) (nD b) = (a.zip b).map fun p => D.tup [.int (p.1 : Int), .int (p.2 : Int)]
  | [], b => by simp [nD, zipD]
  | x :: a, [] => by simp [nD, zipD]
  | x :: a, y :: b => by
    have := zip_nD a b
    unfold nD at *
    rw [List.map_cons, List.map_cons, zipD, this, List.zip_cons_cons, List.map_cons]
theorem chs_zip (os : List Int) : ∀ (b : Nat) (cs : List Nat), ((b :: cs).zip cs).map (fun p => piece os p.1 p.2) = chs os b cs
  | b, [] => rfl
  | b, c :: cs => by
    rw [List.zip_cons_cons, List.map_cons, chs_zip os c cs, chs]
theorem chs_range (os : List Int) (b : Nat) (cs : List Nat) : (List.range cs.length).map (fun i => piece os ((b :: cs).getD i 0) (cs.getD i 0)) = chs os b cs := by
  rw [← chs_zip]
  refine List.ext_getElem? fun i => ?_
  rw [List.getElem?_map, List.getElem?_map]
  by_cases h : i < cs.length
  · have hz : ((b :: cs).zip cs)[i]? = some ((b :: cs).getD i 0, cs.getD i 0) := by
      rw [List.getElem?_zip_eq_some]
      constructor
      · rw [List.getElem?_eq_getElem (by simp; omega)]
        simp [List.getD, List.getElem?_eq_getElem (show i < (b :: cs).length by simp; omega)]
      · rw [List.getElem?_eq_getElem h]
        simp [List.getD, List.getElem?_eq_getElem h]
    rw [List.getElem?_range h, hz]
    rfl
  · rw [List.getElem?_eq_none (by simp; omega), List.getElem?_eq_none (by simp; omega)]
    rfl
theorem cuts_le {os : List Int} {r : Ru} (hr : r.Ok) : ∀ c ∈ cutsL os r, c ≤ os.length := GG_le hr.l1 hr.m1 os.length 0 (by omega)
theorem cuts_len {os : List Int} {r : Ru} (hr : r.Ok) : (cutsL os r).length ≤ os.length := by
  have := GG_len (L := mks os r.w r.d os.length ++ [os.length]) (n := os.length) hr.l1 hr.m1 os.length 0 (by omega)
  unfold cutsL
  omega
def chsL (os : List Int) (r : Ru) : List (List Int) := chs os 0 (cutsL os r)
section
variable {k : Nat} {S : Sto}
theorem r_chunks_in (hk : 3 ≤ k) {r : Ru} (hr : r.Ok) {os : List Int} (ho : Oct os) (hl : os.length ≤ 5000) : callP prog k "chunks_in" [r.D, oD os] S = .ok (.lst ((chsL os r).map oD)) S := by
  apply W.eq
  refine W_call (by omega) rfl rfl fun j hj => ?_
  have hc := r_cuts_in (show 2 ≤ j by omega) (S := S) hr ho hl
  have hle := cuts_le (os := os) hr
  have hlen := cuts_len (os := os) hr
  unfold chsL
  generalize cutsL os r = cs at *
  have h1 : [D.int 0].length + (nD cs).length ≤ line := by rw [nD_len]; simp [line]; omega
  have hcomp : evE (callP prog j) (.comp [3, 4] (.tup [(.nm 3), (.nm 4)]) .zip [(.bin .add (.lst [(.cst (.int 0))]) (.loc 2)), (.loc 2)] none (.slc (.loc 1) (some (.loc 3)) (some (.loc 4)))) [some r.D, some (oD os), some (.lst (nD cs)), none, none] S = .ok (.lst (((0 :: cs).zip cs).map fun p => oD (piece os p.1 p.2))) S := by
    have h1 : 1 + (nD cs).length ≤ line := by rw [nD_len]; simp [line]; omega
    refine comp_map (fun p : Nat × Nat => D.tup [.int (p.1 : Int), .int (p.2 : Int)]) ((0 :: cs).zip cs) (fun p => oD (piece os p.1 p.2)) (ds := [.lst (nD (0 :: cs)), .lst (nD cs)]) ?_ ?_ rfl ?_ fun p hp => ?_
    · simp only [Int.cast_ofNat_Int, evSs_cons, evSs_none, nxt_nx, nxt_ret, retQ_ret, retQ_nx, W_ok, W_bind, bind_ok', lift_some, cup_view, vw_non, vw_int, vw_bl, vw_str, vw_tup, vw_lst, wipeE, evS.eq_1, evS.eq_2, evS.eq_3, evS.eq_4, evS.eq_5, evS.eq_6, evS.eq_7, evS.eq_8, evS.eq_9, evS.eq_10, evS.eq_11, evE.eq_1, evE.eq_2, evE.eq_3, evE.eq_4, evE.eq_5, evE.eq_6, evE.eq_7, evE.eq_8, evE.eq_9, evE.eq_10, evE.eq_11, evE.eq_12, evE.eq_13, evE.eq_14, evE.eq_15, evE.eq_16, evE.eq_17, evE.eq_18, evE.eq_19, evEs, evO, evC, builtin.eq_1, builtin.eq_2, builtin.eq_3, builtin.eq_4, builtin.eq_5, builtin.eq_6, builtin.eq_7, builtin.eq_8, builtin.eq_9, builtin.eq_10, builtin.eq_11, builtin.eq_12, builtin.eq_13, builtin.eq_14, builtin.eq_15, builtin.eq_16, builtin.eq_17, builtin.eq_18, builtin.eq_19, builtin.eq_20, builtin.eq_21, builtin.eq_22, builtin.eq_23, builtin.eq_24, builtin.eq_25, builtin.eq_26, builtin.eq_27, builtin.eq_28, builtin.eq_29, builtin.eq_30, builtin.eq_31, builtin.eq_32, builtin.eq_33, builtin.eq_34, builtin.eq_35, builtin.eq_36, builtin.eq_37, builtin.eq_38, builtin.eq_39, builtin.eq_40, builtin.eq_41, builtin.eq_42, builtin.eq_43, binop.eq_1, binop.eq_2, binop.eq_3, binop.eq_4, binop.eq_5, binop.eq_6, binop.eq_7, binop.eq_8, binop.eq_9, binop.eq_10, binop.eq_11, binop.eq_12, cmpop.eq_1, cmpop.eq_2, cmpop.eq_3, cmpop.eq_4, cmpop.eq_5, cmpop.eq_6, cmpop.eq_7, cmpop.eq_8, cmpop.eq_9, cmpop.eq_10, cmpop.eq_11, cmpop.eq_12, cmpop.eq_13, cmpop.eq_14, cmpop.eq_15, cmpop.eq_16, cmpop.eq_17, cmpop.eq_18, cmpop.eq_19, isScalar, Tg.put.eq_1, Tg.put.eq_2, Tg.puts.eq_1, Tg.puts.eq_2, Nat.zero_le, List.set_cons_zero, List.set_cons_succ, List.getElem?_cons_zero, List.getElem?_cons_succ, List.map_cons, List.map_nil, List.cons_append, List.nil_append, List.replicate_succ, List.replicate_zero, Option.map_some, Option.map_none, Option.bind_some, if_true, if_false, Bool.not_true, Bool.not_false, Nat.sub_self, List.length_cons, List.length_nil, Bool.false_eq_true, reduceCtorEq, and_self, and_true, true_and, decide_true, decide_false, Int.reduceLT, Int.reduceLE, Int.reduceEq, Nat.reduceLeDiff, Nat.reduceAdd, eqOk_ii, eqv_ii, eqOk_ss, eqv_ss, ltOk_ii, lt_ii, l1, l2, l3, l4, Nat.zero_add, eq_self,  Bool.and_self, Bool.and_true, Bool.true_and, List.append_nil, h1]
      rfl
    · show some (zipD (nD (0 :: cs)) (nD cs)) = _
      rw [zip_nD]
    · rw [List.length_zip]; unfold line; simp; omega
    · obtain ⟨p1, p2⟩ := List.of_mem_zip (a := p.1) (b := p.2) hp
      have q1 : p.1 ≤ os.length := by
        rcases List.mem_cons.mp p1 with h | h
        · omega
        · exact hle _ h
      have hs := slc_piece (os := os) q1 (hle _ p2) rfl rfl
      simp only [bodyC, Int.cast_ofNat_Int, evSs_cons, evSs_none, nxt_nx, nxt_ret, retQ_ret, retQ_nx, W_ok, W_bind, bind_ok', lift_some, cup_view, vw_non, vw_int, vw_bl, vw_str, vw_tup, vw_lst, wipeE, evS.eq_1, evS.eq_2, evS.eq_3, evS.eq_4, evS.eq_5, evS.eq_6, evS.eq_7, evS.eq_8, evS.eq_9, evS.eq_10, evS.eq_11, evE.eq_1, evE.eq_2, evE.eq_3, evE.eq_4, evE.eq_5, evE.eq_6, evE.eq_7, evE.eq_8, evE.eq_9, evE.eq_10, evE.eq_11, evE.eq_12, evE.eq_13, evE.eq_14, evE.eq_15, evE.eq_16, evE.eq_17, evE.eq_18, evE.eq_19, evEs, evO, evC, builtin.eq_1, builtin.eq_2, builtin.eq_3, builtin.eq_4, builtin.eq_5, builtin.eq_6, builtin.eq_7, builtin.eq_8, builtin.eq_9, builtin.eq_10, builtin.eq_11, builtin.eq_12, builtin.eq_13, builtin.eq_14, builtin.eq_15, builtin.eq_16, builtin.eq_17, builtin.eq_18, builtin.eq_19, builtin.eq_20, builtin.eq_21, builtin.eq_22, builtin.eq_23, builtin.eq_24, builtin.eq_25, builtin.eq_26, builtin.eq_27, builtin.eq_28, builtin.eq_29, builtin.eq_30, builtin.eq_31, builtin.eq_32, builtin.eq_33, builtin.eq_34, builtin.eq_35, builtin.eq_36, builtin.eq_37, builtin.eq_38, builtin.eq_39, builtin.eq_40, builtin.eq_41, builtin.eq_42, builtin.eq_43, binop.eq_1, binop.eq_2, binop.eq_3, binop.eq_4, binop.eq_5, binop.eq_6, binop.eq_7, binop.eq_8, binop.eq_9, binop.eq_10, binop.eq_11, binop.eq_12, cmpop.eq_1, cmpop.eq_2, cmpop.eq_3, cmpop.eq_4, cmpop.eq_5, cmpop.eq_6, cmpop.eq_7, cmpop.eq_8, cmpop.eq_9, cmpop.eq_10, cmpop.eq_11, cmpop.eq_12, cmpop.eq_13, cmpop.eq_14, cmpop.eq_15, cmpop.eq_16, cmpop.eq_17, cmpop.eq_18, cmpop.eq_19, isScalar, Tg.put.eq_1, Tg.put.eq_2, Tg.puts.eq_1, Tg.puts.eq_2, Nat.zero_le, List.set_cons_zero, List.set_cons_succ, List.getElem?_cons_zero, List.getElem?_cons_succ, List.map_cons, List.map_nil, List.cons_append, List.nil_append, List.replicate_succ, List.replicate_zero, Option.map_some, Option.map_none, Option.bind_some, if_true, if_false, Bool.not_true, Bool.not_false, Nat.sub_self, List.length_cons, List.length_nil, Bool.false_eq_true, reduceCtorEq, and_self, and_true, true_and, decide_true, decide_false, Int.reduceLT, Int.reduceLE, Int.reduceEq, Nat.reduceLeDiff, Nat.reduceAdd, eqOk_ii, eqv_ii, eqOk_ss, eqv_ss, ltOk_ii, lt_ii, l1, l2, l3, l4, Nat.zero_add, eq_self,  Bool.and_self, Bool.and_true, Bool.true_and, List.append_nil, vw_oD, hs]
  simp only [f_chunks_in, Int.cast_ofNat_Int, evSs_cons, evSs_none, nxt_nx, nxt_ret, retQ_ret, retQ_nx, W_ok, W_bind, bind_ok', lift_some, cup_view, vw_non, vw_int, vw_bl, vw_str, vw_tup, vw_lst, wipeE, evS.eq_1, evS.eq_2, evS.eq_3, evS.eq_4, evS.eq_5, evS.eq_6, evS.eq_7, evS.eq_8, evS.eq_9, evS.eq_10, evS.eq_11, evE.eq_1, evE.eq_2, evE.eq_3, evE.eq_4, evE.eq_5, evE.eq_6, evE.eq_7, evE.eq_8, evE.eq_9, evE.eq_10, evE.eq_11, evE.eq_12, evE.eq_13, evE.eq_14, evE.eq_15, evE.eq_16, evE.eq_17, evE.eq_18, evE.eq_19, evEs, evO, evC, builtin.eq_1, builtin.eq_2, builtin.eq_3, builtin.eq_4, builtin.eq_5, builtin.eq_6, builtin.eq_7, builtin.eq_8, builtin.eq_9, builtin.eq_10, builtin.eq_11, builtin.eq_12, builtin.eq_13, builtin.eq_14, builtin.eq_15, builtin.eq_16, builtin.eq_17, builtin.eq_18, builtin.eq_19, builtin.eq_20, builtin.eq_21, builtin.eq_22, builtin.eq_23, builtin.eq_24, builtin.eq_25, builtin.eq_26, builtin.eq_27, builtin.eq_28, builtin.eq_29, builtin.eq_30, builtin.eq_31, builtin.eq_32, builtin.eq_33, builtin.eq_34, builtin.eq_35, builtin.eq_36, builtin.eq_37, builtin.eq_38, builtin.eq_39, builtin.eq_40, builtin.eq_41, builtin.eq_42, builtin.eq_43, binop.eq_1, binop.eq_2, binop.eq_3, binop.eq_4, binop.eq_5, binop.eq_6, binop.eq_7, binop.eq_8, binop.eq_9, binop.eq_10, binop.eq_11, binop.eq_12, cmpop.eq_1, cmpop.eq_2, cmpop.eq_3, cmpop.eq_4, cmpop.eq_5, cmpop.eq_6, cmpop.eq_7, cmpop.eq_8, cmpop.eq_9, cmpop.eq_10, cmpop.eq_11, cmpop.eq_12, cmpop.eq_13, cmpop.eq_14, cmpop.eq_15, cmpop.eq_16, cmpop.eq_17, cmpop.eq_18, cmpop.eq_19, isScalar, Tg.put.eq_1, Tg.put.eq_2, Tg.puts.eq_1, Tg.puts.eq_2, Nat.zero_le, List.set_cons_zero, List.set_cons_succ, List.getElem?_cons_zero, List.getElem?_cons_succ, List.map_cons, List.map_nil, List.cons_append, List.nil_append, List.replicate_succ, List.replicate_zero, Option.map_some, Option.map_none, Option.bind_some, if_true, if_false, Bool.not_true, Bool.not_false, Nat.sub_self, List.length_cons, List.length_nil, Bool.false_eq_true, reduceCtorEq, and_self, and_true, true_and, decide_true, decide_false, Int.reduceLT, Int.reduceLE, Int.reduceEq, Nat.reduceLeDiff, Nat.reduceAdd, eqOk_ii, eqv_ii, eqOk_ss, eqv_ss, ltOk_ii, lt_ii, l1, l2, l3, l4, Nat.zero_add, eq_self,  Bool.and_self, Bool.and_true, Bool.true_and, List.append_nil, hc, hcomp]
  rw [← chs_zip, List.map_map]
  rfl
theorem r_law_chunks (hk : 3 ≤ k) {r : Ru} (hr : r.Ok) {os : List Int} (hl : os.length ≤ 5000) : callP prog k "_law_chunks" [r.D, oD os] S = .ok (.lst ((chsL os r).map oD)) S := by
  apply W.eq
  refine W_call (by omega) rfl rfl fun j hj => ?_
  have hc := r_law_cuts (show 2 ≤ j by omega) (S := S) hr hl
  have hle := cuts_le (os := os) hr
  have hlen := cuts_len (os := os) hr
  unfold chsL
  generalize cutsL os r = cs at *
  have hcomp : evE (callP prog j) (.comp [3] (.nm 3) .range [(.bin .sub (.bi .len [(.loc 2)]) (.cst (.int 1)))] none (.slc (.loc 1) (some (.idx (.loc 2) (.loc 3))) (some (.idx (.loc 2) (.bin .add (.loc 3) (.cst (.int 1))))))) [some r.D, some (oD os), some (.tup (nD (0 :: cs))), none] S = .ok (.lst ((List.range cs.length).map fun i => oD (piece os ((0 :: cs).getD i 0) (cs.getD i 0)))) S := by
    refine comp_map (fun i : Nat => D.int (i : Int)) (List.range cs.length) (fun i => oD (piece os ((0 :: cs).getD i 0) (cs.getD i 0))) (ds := [.int (cs.length : Nat)]) ?_ ?_ rfl ?_ fun i hi => ?_
    · have : (((cs.length + 1 : Nat) : Int) - 1) = (cs.length : Nat) := by omega
      simp only [Int.cast_ofNat_Int, evSs_cons, evSs_none, nxt_nx, nxt_ret, retQ_ret, retQ_nx, W_ok, W_bind, bind_ok', lift_some, cup_view, vw_non, vw_int, vw_bl, vw_str, vw_tup, vw_lst, wipeE, evS.eq_1, evS.eq_2, evS.eq_3, evS.eq_4, evS.eq_5, evS.eq_6, evS.eq_7, evS.eq_8, evS.eq_9, evS.eq_10, evS.eq_11, evE.eq_1, evE.eq_2, evE.eq_3, evE.eq_4, evE.eq_5, evE.eq_6, evE.eq_7, evE.eq_8, evE.eq_9, evE.eq_10, evE.eq_11, evE.eq_12, evE.eq_13, evE.eq_14, evE.eq_15, evE.eq_16, evE.eq_17, evE.eq_18, evE.eq_19, evEs, evO, evC, builtin.eq_1, builtin.eq_2, builtin.eq_3, builtin.eq_4, builtin.eq_5, builtin.eq_6, builtin.eq_7, builtin.eq_8, builtin.eq_9, builtin.eq_10, builtin.eq_11, builtin.eq_12, builtin.eq_13, builtin.eq_14, builtin.eq_15, builtin.eq_16, builtin.eq_17, builtin.eq_18, builtin.eq_19, builtin.eq_20, builtin.eq_21, builtin.eq_22, builtin.eq_23, builtin.eq_24, builtin.eq_25, builtin.eq_26, builtin.eq_27, builtin.eq_28, builtin.eq_29, builtin.eq_30, builtin.eq_31, builtin.eq_32, builtin.eq_33, builtin.eq_34, builtin.eq_35, builtin.eq_36, builtin.eq_37, builtin.eq_38, builtin.eq_39, builtin.eq_40, builtin.eq_41, builtin.eq_42, builtin.eq_43, binop.eq_1, binop.eq_2, binop.eq_3, binop.eq_4, binop.eq_5, binop.eq_6, binop.eq_7, binop.eq_8, binop.eq_9, binop.eq_10, binop.eq_11, binop.eq_12, cmpop.eq_1, cmpop.eq_2, cmpop.eq_3, cmpop.eq_4, cmpop.eq_5, cmpop.eq_6, cmpop.eq_7, cmpop.eq_8, cmpop.eq_9, cmpop.eq_10, cmpop.eq_11, cmpop.eq_12, cmpop.eq_13, cmpop.eq_14, cmpop.eq_15, cmpop.eq_16, cmpop.eq_17, cmpop.eq_18, cmpop.eq_19, isScalar, Tg.put.eq_1, Tg.put.eq_2, Tg.puts.eq_1, Tg.puts.eq_2, Nat.zero_le, List.set_cons_zero, List.set_cons_succ, List.getElem?_cons_zero, List.getElem?_cons_succ, List.map_cons, List.map_nil, List.cons_append, List.nil_append, List.replicate_succ, List.replicate_zero, Option.map_some, Option.map_none, Option.bind_some, if_true, if_false, Bool.not_true, Bool.not_false, Nat.sub_self, List.length_cons, List.length_nil, Bool.false_eq_true, reduceCtorEq, and_self, and_true, true_and, decide_true, decide_false, Int.reduceLT, Int.reduceLE, Int.reduceEq, Nat.reduceLeDiff, Nat.reduceAdd, eqOk_ii, eqv_ii, eqOk_ss, eqv_ss, ltOk_ii, lt_ii, l1, l2, l3, l4, Nat.zero_add, eq_self,  Bool.and_self, Bool.and_true, Bool.true_and, List.append_nil, nD_len, this]
    · have := walk_rng (S := S) (j := (cs.length : Nat)) (by omega) (by omega)
      rw [Int.toNat_natCast] at this
      exact this
    · rw [List.length_range]; unfold line; omega
    · have hi := List.mem_range.mp hi
      have e0 : (0 :: cs)[i]? = some ((0 :: cs).getD i 0) := by
        rw [List.getElem?_eq_getElem (by simp; omega)]
        simp [List.getD, List.getElem?_eq_getElem (show i < (0 :: cs).length by simp; omega)]
      have e1 : cs[i]? = some (cs.getD i 0) := by
        rw [List.getElem?_eq_getElem hi]
        simp [List.getD, List.getElem?_eq_getElem hi]
      have i0 : idx (.tup (nD (0 :: cs))) (.int (i : Int)) = some (.int (((0 :: cs).getD i 0 : Nat) : Int)) := by
        obtain ⟨y, f1, _, f2⟩ := ix_at (xs := nD (0 :: cs)) (r := (i : Nat)) (by omega) (by rw [nD_len]; simp; omega)
        unfold nD at f1
        rw [Int.toNat_natCast, List.getElem?_map, e0] at f1
        cases f1
        exact f2
      have i1 : idx (.tup (nD (0 :: cs))) (.int ((i : Int) + 1)) = some (.int ((cs.getD i 0 : Nat) : Int)) := by
        obtain ⟨y, f1, _, f2⟩ := ix_at (xs := nD (0 :: cs)) (r := ((i + 1 : Nat) : Int)) (by omega) (by rw [nD_len]; simp; omega)
        unfold nD at f1
        rw [Int.toNat_natCast, List.getElem?_map, List.getElem?_cons_succ, e1] at f1
        cases f1
        exact f2
      have q1 : (0 :: cs).getD i 0 ≤ os.length := by
        rcases List.mem_cons.mp (List.mem_of_getElem? e0) with h | h
        · omega
        · exact hle _ h
      have q2 : cs.getD i 0 ≤ os.length := hle _ (List.mem_of_getElem? e1)
      have hs := slc_piece (os := os) q1 q2 rfl rfl
      simp only [bodyC, Int.cast_ofNat_Int, evSs_cons, evSs_none, nxt_nx, nxt_ret, retQ_ret, retQ_nx, W_ok, W_bind, bind_ok', lift_some, cup_view, vw_non, vw_int, vw_bl, vw_str, vw_tup, vw_lst, wipeE, evS.eq_1, evS.eq_2, evS.eq_3, evS.eq_4, evS.eq_5, evS.eq_6, evS.eq_7, evS.eq_8, evS.eq_9, evS.eq_10, evS.eq_11, evE.eq_1, evE.eq_2, evE.eq_3, evE.eq_4, evE.eq_5, evE.eq_6, evE.eq_7, evE.eq_8, evE.eq_9, evE.eq_10, evE.eq_11, evE.eq_12, evE.eq_13, evE.eq_14, evE.eq_15, evE.eq_16, evE.eq_17, evE.eq_18, evE.eq_19, evEs, evO, evC, builtin.eq_1, builtin.eq_2, builtin.eq_3, builtin.eq_4, builtin.eq_5, builtin.eq_6, builtin.eq_7, builtin.eq_8, builtin.eq_9, builtin.eq_10, builtin.eq_11, builtin.eq_12, builtin.eq_13, builtin.eq_14, builtin.eq_15, builtin.eq_16, builtin.eq_17, builtin.eq_18, builtin.eq_19, builtin.eq_20, builtin.eq_21, builtin.eq_22, builtin.eq_23, builtin.eq_24, builtin.eq_25, builtin.eq_26, builtin.eq_27, builtin.eq_28, builtin.eq_29, builtin.eq_30, builtin.eq_31, builtin.eq_32, builtin.eq_33, builtin.eq_34, builtin.eq_35, builtin.eq_36, builtin.eq_37, builtin.eq_38, builtin.eq_39, builtin.eq_40, builtin.eq_41, builtin.eq_42, builtin.eq_43, binop.eq_1, binop.eq_2, binop.eq_3, binop.eq_4, binop.eq_5, binop.eq_6, binop.eq_7, binop.eq_8, binop.eq_9, binop.eq_10, binop.eq_11, binop.eq_12, cmpop.eq_1, cmpop.eq_2, cmpop.eq_3, cmpop.eq_4, cmpop.eq_5, cmpop.eq_6, cmpop.eq_7, cmpop.eq_8, cmpop.eq_9, cmpop.eq_10, cmpop.eq_11, cmpop.eq_12, cmpop.eq_13, cmpop.eq_14, cmpop.eq_15, cmpop.eq_16, cmpop.eq_17, cmpop.eq_18, cmpop.eq_19, isScalar, Tg.put.eq_1, Tg.put.eq_2, Tg.puts.eq_1, Tg.puts.eq_2, Nat.zero_le, List.set_cons_zero, List.set_cons_succ, List.getElem?_cons_zero, List.getElem?_cons_succ, List.map_cons, List.map_nil, List.cons_append, List.nil_append, List.replicate_succ, List.replicate_zero, Option.map_some, Option.map_none, Option.bind_some, if_true, if_false, Bool.not_true, Bool.not_false, Nat.sub_self, List.length_cons, List.length_nil, Bool.false_eq_true, reduceCtorEq, and_self, and_true, true_and, decide_true, decide_false, Int.reduceLT, Int.reduceLE, Int.reduceEq, Nat.reduceLeDiff, Nat.reduceAdd, eqOk_ii, eqv_ii, eqOk_ss, eqv_ss, ltOk_ii, lt_ii, l1, l2, l3, l4, Nat.zero_add, eq_self,  Bool.and_self, Bool.and_true, Bool.true_and, List.append_nil, vw_oD, i0, i1, hs]
  have h1 : 1 + (nD cs).length ≤ line := by rw [nD_len]; unfold line; omega
  have hnd : D.int 0 :: nD cs = nD (0 :: cs) := rfl
  simp only [f__law_chunks, Int.cast_ofNat_Int, evSs_cons, evSs_none, nxt_nx, nxt_ret, retQ_ret, retQ_nx, W_ok, W_bind, bind_ok', lift_some, cup_view, vw_non, vw_int, vw_bl, vw_str, vw_tup, vw_lst, wipeE, evS.eq_1, evS.eq_2, evS.eq_3, evS.eq_4, evS.eq_5, evS.eq_6, evS.eq_7, evS.eq_8, evS.eq_9, evS.eq_10, evS.eq_11, evE.eq_1, evE.eq_2, evE.eq_3, evE.eq_4, evE.eq_5, evE.eq_6, evE.eq_7, evE.eq_8, evE.eq_9, evE.eq_10, evE.eq_11, evE.eq_12, evE.eq_13, evE.eq_14, evE.eq_15, evE.eq_16, evE.eq_17, evE.eq_18, evE.eq_19, evEs, evO, evC, builtin.eq_1, builtin.eq_2, builtin.eq_3, builtin.eq_4, builtin.eq_5, builtin.eq_6, builtin.eq_7, builtin.eq_8, builtin.eq_9, builtin.eq_10, builtin.eq_11, builtin.eq_12, builtin.eq_13, builtin.eq_14, builtin.eq_15, builtin.eq_16, builtin.eq_17, builtin.eq_18, builtin.eq_19, builtin.eq_20, builtin.eq_21, builtin.eq_22, builtin.eq_23, builtin.eq_24, builtin.eq_25, builtin.eq_26, builtin.eq_27, builtin.eq_28, builtin.eq_29, builtin.eq_30, builtin.eq_31, builtin.eq_32, builtin.eq_33, builtin.eq_34, builtin.eq_35, builtin.eq_36, builtin.eq_37, builtin.eq_38, builtin.eq_39, builtin.eq_40, builtin.eq_41, builtin.eq_42, builtin.eq_43, binop.eq_1, binop.eq_2, binop.eq_3, binop.eq_4, binop.eq_5, binop.eq_6, binop.eq_7, binop.eq_8, binop.eq_9, binop.eq_10, binop.eq_11, binop.eq_12, cmpop.eq_1, cmpop.eq_2, cmpop.eq_3, cmpop.eq_4, cmpop.eq_5, cmpop.eq_6, cmpop.eq_7, cmpop.eq_8, cmpop.eq_9, cmpop.eq_10, cmpop.eq_11, cmpop.eq_12, cmpop.eq_13, cmpop.eq_14, cmpop.eq_15, cmpop.eq_16, cmpop.eq_17, cmpop.eq_18, cmpop.eq_19, isScalar, Tg.put.eq_1, Tg.put.eq_2, Tg.puts.eq_1, Tg.puts.eq_2, Nat.zero_le, List.set_cons_zero, List.set_cons_succ, List.getElem?_cons_zero, List.getElem?_cons_succ, List.map_cons, List.map_nil, List.cons_append, List.nil_append, List.replicate_succ, List.replicate_zero, Option.map_some, Option.map_none, Option.bind_some, if_true, if_false, Bool.not_true, Bool.not_false, Nat.sub_self, List.length_cons, List.length_nil, Bool.false_eq_true, reduceCtorEq, and_self, and_true, true_and, decide_true, decide_false, Int.reduceLT, Int.reduceLE, Int.reduceEq, Nat.reduceLeDiff, Nat.reduceAdd, eqOk_ii, eqv_ii, eqOk_ss, eqv_ss, ltOk_ii, lt_ii, l1, l2, l3, l4, Nat.zero_add, eq_self,  Bool.and_self, Bool.and_true, Bool.true_and, List.append_nil, hc, h1, hnd, hcomp]
  rw [← chs_range, List.map_map]
  rfl
theorem r_marks (hk : 4 ≤ k) {r : Ru} (hr : r.Ok) {os : List Int} (ho : Oct os) (hl : os.length ≤ 5000) : callP prog k "marks" [r.D, oD os] S = .ok (.tup (nD (mks os r.w r.d os.length))) S := by
  apply W.eq
  refine W_call (by omega) rfl rfl fun j hj => ?_
  simp only [f_marks, Int.cast_ofNat_Int, evSs_cons, evSs_none, nxt_nx, nxt_ret, retQ_ret, retQ_nx, W_ok, W_bind, bind_ok', lift_some, cup_view, vw_non, vw_int, vw_bl, vw_str, vw_tup, vw_lst, wipeE, evS.eq_1, evS.eq_2, evS.eq_3, evS.eq_4, evS.eq_5, evS.eq_6, evS.eq_7, evS.eq_8, evS.eq_9, evS.eq_10, evS.eq_11, evE.eq_1, evE.eq_2, evE.eq_3, evE.eq_4, evE.eq_5, evE.eq_6, evE.eq_7, evE.eq_8, evE.eq_9, evE.eq_10, evE.eq_11, evE.eq_12, evE.eq_13, evE.eq_14, evE.eq_15, evE.eq_16, evE.eq_17, evE.eq_18, evE.eq_19, evEs, evO, evC, builtin.eq_1, builtin.eq_2, builtin.eq_3, builtin.eq_4, builtin.eq_5, builtin.eq_6, builtin.eq_7, builtin.eq_8, builtin.eq_9, builtin.eq_10, builtin.eq_11, builtin.eq_12, builtin.eq_13, builtin.eq_14, builtin.eq_15, builtin.eq_16, builtin.eq_17, builtin.eq_18, builtin.eq_19, builtin.eq_20, builtin.eq_21, builtin.eq_22, builtin.eq_23, builtin.eq_24, builtin.eq_25, builtin.eq_26, builtin.eq_27, builtin.eq_28, builtin.eq_29, builtin.eq_30, builtin.eq_31, builtin.eq_32, builtin.eq_33, builtin.eq_34, builtin.eq_35, builtin.eq_36, builtin.eq_37, builtin.eq_38, builtin.eq_39, builtin.eq_40, builtin.eq_41, builtin.eq_42, builtin.eq_43, binop.eq_1, binop.eq_2, binop.eq_3, binop.eq_4, binop.eq_5, binop.eq_6, binop.eq_7, binop.eq_8, binop.eq_9, binop.eq_10, binop.eq_11, binop.eq_12, cmpop.eq_1, cmpop.eq_2, cmpop.eq_3, cmpop.eq_4, cmpop.eq_5, cmpop.eq_6, cmpop.eq_7, cmpop.eq_8, cmpop.eq_9, cmpop.eq_10, cmpop.eq_11, cmpop.eq_12, cmpop.eq_13, cmpop.eq_14, cmpop.eq_15, cmpop.eq_16, cmpop.eq_17, cmpop.eq_18, cmpop.eq_19, isScalar, Tg.put.eq_1, Tg.put.eq_2, Tg.puts.eq_1, Tg.puts.eq_2, Nat.zero_le, List.set_cons_zero, List.set_cons_succ, List.getElem?_cons_zero, List.getElem?_cons_succ, List.map_cons, List.map_nil, List.cons_append, List.nil_append, List.replicate_succ, List.replicate_zero, Option.map_some, Option.map_none, Option.bind_some, if_true, if_false, Bool.not_true, Bool.not_false, Nat.sub_self, List.length_cons, List.length_nil, Bool.false_eq_true, reduceCtorEq, and_self, and_true, true_and, decide_true, decide_false, Int.reduceLT, Int.reduceLE, Int.reduceEq, Nat.reduceLeDiff, Nat.reduceAdd, eqOk_ii, eqv_ii, eqOk_ss, eqv_ss, ltOk_ii, lt_ii, l1, l2, l3, l4, Nat.zero_add, eq_self,  Bool.and_self, Bool.and_true, Bool.true_and, List.append_nil, r_need (show 3 ≤ j by omega) hr ho hl, r_marks_in (show 1 ≤ j by omega) hr ho hl]
theorem r_cuts (hk : 4 ≤ k) {r : Ru} (hr : r.Ok) {os : List Int} (ho : Oct os) (hl : os.length ≤ 5000) : callP prog k "cuts" [r.D, oD os] S = .ok (.tup (nD (cutsL os r))) S := by
  apply W.eq
  refine W_call (by omega) rfl rfl fun j hj => ?_
  simp only [f_cuts, Int.cast_ofNat_Int, evSs_cons, evSs_none, nxt_nx, nxt_ret, retQ_ret, retQ_nx, W_ok, W_bind, bind_ok', lift_some, cup_view, vw_non, vw_int, vw_bl, vw_str, vw_tup, vw_lst, wipeE, evS.eq_1, evS.eq_2, evS.eq_3, evS.eq_4, evS.eq_5, evS.eq_6, evS.eq_7, evS.eq_8, evS.eq_9, evS.eq_10, evS.eq_11, evE.eq_1, evE.eq_2, evE.eq_3, evE.eq_4, evE.eq_5, evE.eq_6, evE.eq_7, evE.eq_8, evE.eq_9, evE.eq_10, evE.eq_11, evE.eq_12, evE.eq_13, evE.eq_14, evE.eq_15, evE.eq_16, evE.eq_17, evE.eq_18, evE.eq_19, evEs, evO, evC, builtin.eq_1, builtin.eq_2, builtin.eq_3, builtin.eq_4, builtin.eq_5, builtin.eq_6, builtin.eq_7, builtin.eq_8, builtin.eq_9, builtin.eq_10, builtin.eq_11, builtin.eq_12, builtin.eq_13, builtin.eq_14, builtin.eq_15, builtin.eq_16, builtin.eq_17, builtin.eq_18, builtin.eq_19, builtin.eq_20, builtin.eq_21, builtin.eq_22, builtin.eq_23, builtin.eq_24, builtin.eq_25, builtin.eq_26, builtin.eq_27, builtin.eq_28, builtin.eq_29, builtin.eq_30, builtin.eq_31, builtin.eq_32, builtin.eq_33, builtin.eq_34, builtin.eq_35, builtin.eq_36, builtin.eq_37, builtin.eq_38, builtin.eq_39, builtin.eq_40, builtin.eq_41, builtin.eq_42, builtin.eq_43, binop.eq_1, binop.eq_2, binop.eq_3, binop.eq_4, binop.eq_5, binop.eq_6, binop.eq_7, binop.eq_8, binop.eq_9, binop.eq_10, binop.eq_11, binop.eq_12, cmpop.eq_1, cmpop.eq_2, cmpop.eq_3, cmpop.eq_4, cmpop.eq_5, cmpop.eq_6, cmpop.eq_7, cmpop.eq_8, cmpop.eq_9, cmpop.eq_10, cmpop.eq_11, cmpop.eq_12, cmpop.eq_13, cmpop.eq_14, cmpop.eq_15, cmpop.eq_16, cmpop.eq_17, cmpop.eq_18, cmpop.eq_19, isScalar, Tg.put.eq_1, Tg.put.eq_2, Tg.puts.eq_1, Tg.puts.eq_2, Nat.zero_le, List.set_cons_zero, List.set_cons_succ, List.getElem?_cons_zero, List.getElem?_cons_succ, List.map_cons, List.map_nil, List.cons_append, List.nil_append, List.replicate_succ, List.replicate_zero, Option.map_some, Option.map_none, Option.bind_some, if_true, if_false, Bool.not_true, Bool.not_false, Nat.sub_self, List.length_cons, List.length_nil, Bool.false_eq_true, reduceCtorEq, and_self, and_true, true_and, decide_true, decide_false, Int.reduceLT, Int.reduceLE, Int.reduceEq, Nat.reduceLeDiff, Nat.reduceAdd, eqOk_ii, eqv_ii, eqOk_ss, eqv_ss, ltOk_ii, lt_ii, l1, l2, l3, l4, Nat.zero_add, eq_self,  Bool.and_self, Bool.and_true, Bool.true_and, List.append_nil, r_need (show 3 ≤ j by omega) hr ho hl, r_cuts_in (show 2 ≤ j by omega) hr ho hl]
theorem r_chunks (hk : 4 ≤ k) {r : Ru} (hr : r.Ok) {os : List Int} (ho : Oct os) (hl : os.length ≤ 5000) : callP prog k "chunks" [r.D, oD os] S = .ok (.tup ((chsL os r).map oD)) S := by
  apply W.eq
  refine W_call (by omega) rfl rfl fun j hj => ?_
  simp only [f_chunks, Int.cast_ofNat_Int, evSs_cons, evSs_none, nxt_nx, nxt_ret, retQ_ret, retQ_nx, W_ok, W_bind, bind_ok', lift_some, cup_view, vw_non, vw_int, vw_bl, vw_str, vw_tup, vw_lst, wipeE, evS.eq_1, evS.eq_2, evS.eq_3, evS.eq_4, evS.eq_5, evS.eq_6, evS.eq_7, evS.eq_8, evS.eq_9, evS.eq_10, evS.eq_11, evE.eq_1, evE.eq_2, evE.eq_3, evE.eq_4, evE.eq_5, evE.eq_6, evE.eq_7, evE.eq_8, evE.eq_9, evE.eq_10, evE.eq_11, evE.eq_12, evE.eq_13, evE.eq_14, evE.eq_15, evE.eq_16, evE.eq_17, evE.eq_18, evE.eq_19, evEs, evO, evC, builtin.eq_1, builtin.eq_2, builtin.eq_3, builtin.eq_4, builtin.eq_5, builtin.eq_6, builtin.eq_7, builtin.eq_8, builtin.eq_9, builtin.eq_10, builtin.eq_11, builtin.eq_12, builtin.eq_13, builtin.eq_14, builtin.eq_15, builtin.eq_16, builtin.eq_17, builtin.eq_18, builtin.eq_19, builtin.eq_20, builtin.eq_21, builtin.eq_22, builtin.eq_23, builtin.eq_24, builtin.eq_25, builtin.eq_26, builtin.eq_27, builtin.eq_28, builtin.eq_29, builtin.eq_30, builtin.eq_31, builtin.eq_32, builtin.eq_33, builtin.eq_34, builtin.eq_35, builtin.eq_36, builtin.eq_37, builtin.eq_38, builtin.eq_39, builtin.eq_40, builtin.eq_41, builtin.eq_42, builtin.eq_43, binop.eq_1, binop.eq_2, binop.eq_3, binop.eq_4, binop.eq_5, binop.eq_6, binop.eq_7, binop.eq_8, binop.eq_9, binop.eq_10, binop.eq_11, binop.eq_12, cmpop.eq_1, cmpop.eq_2, cmpop.eq_3, cmpop.eq_4, cmpop.eq_5, cmpop.eq_6, cmpop.eq_7, cmpop.eq_8, cmpop.eq_9, cmpop.eq_10, cmpop.eq_11, cmpop.eq_12, cmpop.eq_13, cmpop.eq_14, cmpop.eq_15, cmpop.eq_16, cmpop.eq_17, cmpop.eq_18, cmpop.eq_19, isScalar, Tg.put.eq_1, Tg.put.eq_2, Tg.puts.eq_1, Tg.puts.eq_2, Nat.zero_le, List.set_cons_zero, List.set_cons_succ, List.getElem?_cons_zero, List.getElem?_cons_succ, List.map_cons, List.map_nil, List.cons_append, List.nil_append, List.replicate_succ, List.replicate_zero, Option.map_some, Option.map_none, Option.bind_some, if_true, if_false, Bool.not_true, Bool.not_false, Nat.sub_self, List.length_cons, List.length_nil, Bool.false_eq_true, reduceCtorEq, and_self, and_true, true_and, decide_true, decide_false, Int.reduceLT, Int.reduceLE, Int.reduceEq, Nat.reduceLeDiff, Nat.reduceAdd, eqOk_ii, eqv_ii, eqOk_ss, eqv_ss, ltOk_ii, lt_ii, l1, l2, l3, l4, Nat.zero_add, eq_self,  Bool.and_self, Bool.and_true, Bool.true_and, List.append_nil, r_need (show 3 ≤ j by omega) hr ho hl, r_chunks_in (show 3 ≤ j by omega) hr ho hl]
theorem w_rule (hk : 4 ≤ k) {a b : Int} {Q : D → Sto → Prop} (go : ∀ (r : Ru) (a b : Int), r.Ok → Q r.D (Cup a b [])) : W (callP prog k "_law_rule" [.ref 0] (Cup a b [])) Q := by
  refine W_call (by omega) rfl rfl fun j hj => ?_
  simp only [f__law_rule, Int.cast_ofNat_Int, evSs_cons, evSs_none, nxt_nx, nxt_ret, retQ_ret, retQ_nx, W_ok, W_bind, bind_ok', lift_some, cup_view, vw_non, vw_int, vw_bl, vw_str, vw_tup, vw_lst, wipeE, evS.eq_1, evS.eq_2, evS.eq_3, evS.eq_4, evS.eq_5, evS.eq_6, evS.eq_7, evS.eq_8, evS.eq_9, evS.eq_10, evS.eq_11, evE.eq_1, evE.eq_2, evE.eq_3, evE.eq_4, evE.eq_5, evE.eq_6, evE.eq_7, evE.eq_8, evE.eq_9, evE.eq_10, evE.eq_11, evE.eq_12, evE.eq_13, evE.eq_14, evE.eq_15, evE.eq_16, evE.eq_17, evE.eq_18, evE.eq_19, evEs, evO, evC, builtin.eq_1, builtin.eq_2, builtin.eq_3, builtin.eq_4, builtin.eq_5, builtin.eq_6, builtin.eq_7, builtin.eq_8, builtin.eq_9, builtin.eq_10, builtin.eq_11, builtin.eq_12, builtin.eq_13, builtin.eq_14, builtin.eq_15, builtin.eq_16, builtin.eq_17, builtin.eq_18, builtin.eq_19, builtin.eq_20, builtin.eq_21, builtin.eq_22, builtin.eq_23, builtin.eq_24, builtin.eq_25, builtin.eq_26, builtin.eq_27, builtin.eq_28, builtin.eq_29, builtin.eq_30, builtin.eq_31, builtin.eq_32, builtin.eq_33, builtin.eq_34, builtin.eq_35, builtin.eq_36, builtin.eq_37, builtin.eq_38, builtin.eq_39, builtin.eq_40, builtin.eq_41, builtin.eq_42, builtin.eq_43, binop.eq_1, binop.eq_2, binop.eq_3, binop.eq_4, binop.eq_5, binop.eq_6, binop.eq_7, binop.eq_8, binop.eq_9, binop.eq_10, binop.eq_11, binop.eq_12, cmpop.eq_1, cmpop.eq_2, cmpop.eq_3, cmpop.eq_4, cmpop.eq_5, cmpop.eq_6, cmpop.eq_7, cmpop.eq_8, cmpop.eq_9, cmpop.eq_10, cmpop.eq_11, cmpop.eq_12, cmpop.eq_13, cmpop.eq_14, cmpop.eq_15, cmpop.eq_16, cmpop.eq_17, cmpop.eq_18, cmpop.eq_19, isScalar, Tg.put.eq_1, Tg.put.eq_2, Tg.puts.eq_1, Tg.puts.eq_2, Nat.zero_le, List.set_cons_zero, List.set_cons_succ, List.getElem?_cons_zero, List.getElem?_cons_succ, List.map_cons, List.map_nil, List.cons_append, List.nil_append, List.replicate_succ, List.replicate_zero, Option.map_some, Option.map_none, Option.bind_some, if_true, if_false, Bool.not_true, Bool.not_false, Nat.sub_self, List.length_cons, List.length_nil, Bool.false_eq_true, reduceCtorEq, and_self, and_true, true_and, decide_true, decide_false, Int.reduceLT, Int.reduceLE, Int.reduceEq, Nat.reduceLeDiff, Nat.reduceAdd, eqOk_ii, eqv_ii, eqOk_ss, eqv_ss, ltOk_ii, lt_ii, l1, l2, l3, l4, Nat.zero_add, eq_self,  Bool.and_self, Bool.and_true, Bool.true_and, List.append_nil]
  refine w_roll rl (by omega) (by omega) (by omega) fun l a b l0 l1 => ?_
  (try simp only [Int.cast_ofNat_Int, evSs_cons, evSs_none, nxt_nx, nxt_ret, retQ_ret, retQ_nx, W_ok, W_bind, bind_ok', lift_some, cup_view, vw_non, vw_int, vw_bl, vw_str, vw_tup, vw_lst, wipeE, evS.eq_1, evS.eq_2, evS.eq_3, evS.eq_4, evS.eq_5, evS.eq_6, evS.eq_7, evS.eq_8, evS.eq_9, evS.eq_10, evS.eq_11, evE.eq_1, evE.eq_2, evE.eq_3, evE.eq_4, evE.eq_5, evE.eq_6, evE.eq_7, evE.eq_8, evE.eq_9, evE.eq_10, evE.eq_11, evE.eq_12, evE.eq_13, evE.eq_14, evE.eq_15, evE.eq_16, evE.eq_17, evE.eq_18, evE.eq_19, evEs, evO, evC, builtin.eq_1, builtin.eq_2, builtin.eq_3, builtin.eq_4, builtin.eq_5, builtin.eq_6, builtin.eq_7, builtin.eq_8, builtin.eq_9, builtin.eq_10, builtin.eq_11, builtin.eq_12, builtin.eq_13, builtin.eq_14, builtin.eq_15, builtin.eq_16, builtin.eq_17, builtin.eq_18, builtin.eq_19, builtin.eq_20, builtin.eq_21, builtin.eq_22, builtin.eq_23, builtin.eq_24, builtin.eq_25, builtin.eq_26, builtin.eq_27, builtin.eq_28, builtin.eq_29, builtin.eq_30, builtin.eq_31, builtin.eq_32, builtin.eq_33, builtin.eq_34, builtin.eq_35, builtin.eq_36, builtin.eq_37, builtin.eq_38, builtin.eq_39, builtin.eq_40, builtin.eq_41, builtin.eq_42, builtin.eq_43, binop.eq_1, binop.eq_2, binop.eq_3, binop.eq_4, binop.eq_5, binop.eq_6, binop.eq_7, binop.eq_8, binop.eq_9, binop.eq_10, binop.eq_11, binop.eq_12, cmpop.eq_1, cmpop.eq_2, cmpop.eq_3, cmpop.eq_4, cmpop.eq_5, cmpop.eq_6, cmpop.eq_7, cmpop.eq_8, cmpop.eq_9, cmpop.eq_10, cmpop.eq_11, cmpop.eq_12, cmpop.eq_13, cmpop.eq_14, cmpop.eq_15, cmpop.eq_16, cmpop.eq_17, cmpop.eq_18, cmpop.eq_19, isScalar, Tg.put.eq_1, Tg.put.eq_2, Tg.puts.eq_1, Tg.puts.eq_2, Nat.zero_le, List.set_cons_zero, List.set_cons_succ, List.getElem?_cons_zero, List.getElem?_cons_succ, List.map_cons, List.map_nil, List.cons_append, List.nil_append, List.replicate_succ, List.replicate_zero, Option.map_some, Option.map_none, Option.bind_some, if_true, if_false, Bool.not_true, Bool.not_false, Nat.sub_self, List.length_cons, List.length_nil, Bool.false_eq_true, reduceCtorEq, and_self, and_true, true_and, decide_true, decide_false, Int.reduceLT, Int.reduceLE, Int.reduceEq, Nat.reduceLeDiff, Nat.reduceAdd, eqOk_ii, eqv_ii, eqOk_ss, eqv_ss, ltOk_ii, lt_ii, l1, l2, l3, l4, Nat.zero_add, eq_self,  Bool.and_self, Bool.and_true, Bool.true_and, List.append_nil])
  refine w_some rl sm (by omega) (by simp) (by simp) fun x a b hx => ?_
  have hx : ∃ z : Int, x = .int z ∧ 2 ≤ z ∧ z ≤ 16 := by
    simp only [List.mem_cons, List.not_mem_nil, or_false] at hx
    rcases hx with rfl | rfl
    · exact ⟨2, rfl, by omega, by omega⟩
    · exact ⟨16, rfl, by omega, by omega⟩
  obtain ⟨z, rfl, z1, z2⟩ := hx
  (try simp only [Int.cast_ofNat_Int, evSs_cons, evSs_none, nxt_nx, nxt_ret, retQ_ret, retQ_nx, W_ok, W_bind, bind_ok', lift_some, cup_view, vw_non, vw_int, vw_bl, vw_str, vw_tup, vw_lst, wipeE, evS.eq_1, evS.eq_2, evS.eq_3, evS.eq_4, evS.eq_5, evS.eq_6, evS.eq_7, evS.eq_8, evS.eq_9, evS.eq_10, evS.eq_11, evE.eq_1, evE.eq_2, evE.eq_3, evE.eq_4, evE.eq_5, evE.eq_6, evE.eq_7, evE.eq_8, evE.eq_9, evE.eq_10, evE.eq_11, evE.eq_12, evE.eq_13, evE.eq_14, evE.eq_15, evE.eq_16, evE.eq_17, evE.eq_18, evE.eq_19, evEs, evO, evC, builtin.eq_1, builtin.eq_2, builtin.eq_3, builtin.eq_4, builtin.eq_5, builtin.eq_6, builtin.eq_7, builtin.eq_8, builtin.eq_9, builtin.eq_10, builtin.eq_11, builtin.eq_12, builtin.eq_13, builtin.eq_14, builtin.eq_15, builtin.eq_16, builtin.eq_17, builtin.eq_18, builtin.eq_19, builtin.eq_20, builtin.eq_21, builtin.eq_22, builtin.eq_23, builtin.eq_24, builtin.eq_25, builtin.eq_26, builtin.eq_27, builtin.eq_28, builtin.eq_29, builtin.eq_30, builtin.eq_31, builtin.eq_32, builtin.eq_33, builtin.eq_34, builtin.eq_35, builtin.eq_36, builtin.eq_37, builtin.eq_38, builtin.eq_39, builtin.eq_40, builtin.eq_41, builtin.eq_42, builtin.eq_43, binop.eq_1, binop.eq_2, binop.eq_3, binop.eq_4, binop.eq_5, binop.eq_6, binop.eq_7, binop.eq_8, binop.eq_9, binop.eq_10, binop.eq_11, binop.eq_12, cmpop.eq_1, cmpop.eq_2, cmpop.eq_3, cmpop.eq_4, cmpop.eq_5, cmpop.eq_6, cmpop.eq_7, cmpop.eq_8, cmpop.eq_9, cmpop.eq_10, cmpop.eq_11, cmpop.eq_12, cmpop.eq_13, cmpop.eq_14, cmpop.eq_15, cmpop.eq_16, cmpop.eq_17, cmpop.eq_18, cmpop.eq_19, isScalar, Tg.put.eq_1, Tg.put.eq_2, Tg.puts.eq_1, Tg.puts.eq_2, Nat.zero_le, List.set_cons_zero, List.set_cons_succ, List.getElem?_cons_zero, List.getElem?_cons_succ, List.map_cons, List.map_nil, List.cons_append, List.nil_append, List.replicate_succ, List.replicate_zero, Option.map_some, Option.map_none, Option.bind_some, if_true, if_false, Bool.not_true, Bool.not_false, Nat.sub_self, List.length_cons, List.length_nil, Bool.false_eq_true, reduceCtorEq, and_self, and_true, true_and, decide_true, decide_false, Int.reduceLT, Int.reduceLE, Int.reduceEq, Nat.reduceLeDiff, Nat.reduceAdd, eqOk_ii, eqv_ii, eqOk_ss, eqv_ss, ltOk_ii, lt_ii, l1, l2, l3, l4, Nat.zero_add, eq_self,  Bool.and_self, Bool.and_true, Bool.true_and, List.append_nil])
  refine w_roll rl (by omega) (by omega) (by omega) fun w a b w0 w1 => ?_
  (try simp only [Int.cast_ofNat_Int, evSs_cons, evSs_none, nxt_nx, nxt_ret, retQ_ret, retQ_nx, W_ok, W_bind, bind_ok', lift_some, cup_view, vw_non, vw_int, vw_bl, vw_str, vw_tup, vw_lst, wipeE, evS.eq_1, evS.eq_2, evS.eq_3, evS.eq_4, evS.eq_5, evS.eq_6, evS.eq_7, evS.eq_8, evS.eq_9, evS.eq_10, evS.eq_11, evE.eq_1, evE.eq_2, evE.eq_3, evE.eq_4, evE.eq_5, evE.eq_6, evE.eq_7, evE.eq_8, evE.eq_9, evE.eq_10, evE.eq_11, evE.eq_12, evE.eq_13, evE.eq_14, evE.eq_15, evE.eq_16, evE.eq_17, evE.eq_18, evE.eq_19, evEs, evO, evC, builtin.eq_1, builtin.eq_2, builtin.eq_3, builtin.eq_4, builtin.eq_5, builtin.eq_6, builtin.eq_7, builtin.eq_8, builtin.eq_9, builtin.eq_10, builtin.eq_11, builtin.eq_12, builtin.eq_13, builtin.eq_14, builtin.eq_15, builtin.eq_16, builtin.eq_17, builtin.eq_18, builtin.eq_19, builtin.eq_20, builtin.eq_21, builtin.eq_22, builtin.eq_23, builtin.eq_24, builtin.eq_25, builtin.eq_26, builtin.eq_27, builtin.eq_28, builtin.eq_29, builtin.eq_30, builtin.eq_31, builtin.eq_32, builtin.eq_33, builtin.eq_34, builtin.eq_35, builtin.eq_36, builtin.eq_37, builtin.eq_38, builtin.eq_39, builtin.eq_40, builtin.eq_41, builtin.eq_42, builtin.eq_43, binop.eq_1, binop.eq_2, binop.eq_3, binop.eq_4, binop.eq_5, binop.eq_6, binop.eq_7, binop.eq_8, binop.eq_9, binop.eq_10, binop.eq_11, binop.eq_12, cmpop.eq_1, cmpop.eq_2, cmpop.eq_3, cmpop.eq_4, cmpop.eq_5, cmpop.eq_6, cmpop.eq_7, cmpop.eq_8, cmpop.eq_9, cmpop.eq_10, cmpop.eq_11, cmpop.eq_12, cmpop.eq_13, cmpop.eq_14, cmpop.eq_15, cmpop.eq_16, cmpop.eq_17, cmpop.eq_18, cmpop.eq_19, isScalar, Tg.put.eq_1, Tg.put.eq_2, Tg.puts.eq_1, Tg.puts.eq_2, Nat.zero_le, List.set_cons_zero, List.set_cons_succ, List.getElem?_cons_zero, List.getElem?_cons_succ, List.map_cons, List.map_nil, List.cons_append, List.nil_append, List.replicate_succ, List.replicate_zero, Option.map_some, Option.map_none, Option.bind_some, if_true, if_false, Bool.not_true, Bool.not_false, Nat.sub_self, List.length_cons, List.length_nil, Bool.false_eq_true, reduceCtorEq, and_self, and_true, true_and, decide_true, decide_false, Int.reduceLT, Int.reduceLE, Int.reduceEq, Nat.reduceLeDiff, Nat.reduceAdd, eqOk_ii, eqv_ii, eqOk_ss, eqv_ss, ltOk_ii, lt_ii, l1, l2, l3, l4, Nat.zero_add, eq_self,  Bool.and_self, Bool.and_true, Bool.true_and, List.append_nil])
  refine w_some rl sm (by omega) (by simp) (by simp) fun x a b hx => ?_
  have hx : ∃ z : Int, x = .int z ∧ 1 ≤ z ∧ z ≤ 7 := by
    simp only [List.mem_cons, List.not_mem_nil, or_false] at hx
    rcases hx with rfl | rfl | rfl | rfl
    · exact ⟨1, rfl, by omega, by omega⟩
    · exact ⟨2, rfl, by omega, by omega⟩
    · exact ⟨4, rfl, by omega, by omega⟩
    · exact ⟨7, rfl, by omega, by omega⟩
  obtain ⟨d, rfl, d1, d2⟩ := hx
  (try simp only [Int.cast_ofNat_Int, evSs_cons, evSs_none, nxt_nx, nxt_ret, retQ_ret, retQ_nx, W_ok, W_bind, bind_ok', lift_some, cup_view, vw_non, vw_int, vw_bl, vw_str, vw_tup, vw_lst, wipeE, evS.eq_1, evS.eq_2, evS.eq_3, evS.eq_4, evS.eq_5, evS.eq_6, evS.eq_7, evS.eq_8, evS.eq_9, evS.eq_10, evS.eq_11, evE.eq_1, evE.eq_2, evE.eq_3, evE.eq_4, evE.eq_5, evE.eq_6, evE.eq_7, evE.eq_8, evE.eq_9, evE.eq_10, evE.eq_11, evE.eq_12, evE.eq_13, evE.eq_14, evE.eq_15, evE.eq_16, evE.eq_17, evE.eq_18, evE.eq_19, evEs, evO, evC, builtin.eq_1, builtin.eq_2, builtin.eq_3, builtin.eq_4, builtin.eq_5, builtin.eq_6, builtin.eq_7, builtin.eq_8, builtin.eq_9, builtin.eq_10, builtin.eq_11, builtin.eq_12, builtin.eq_13, builtin.eq_14, builtin.eq_15, builtin.eq_16, builtin.eq_17, builtin.eq_18, builtin.eq_19, builtin.eq_20, builtin.eq_21, builtin.eq_22, builtin.eq_23, builtin.eq_24, builtin.eq_25, builtin.eq_26, builtin.eq_27, builtin.eq_28, builtin.eq_29, builtin.eq_30, builtin.eq_31, builtin.eq_32, builtin.eq_33, builtin.eq_34, builtin.eq_35, builtin.eq_36, builtin.eq_37, builtin.eq_38, builtin.eq_39, builtin.eq_40, builtin.eq_41, builtin.eq_42, builtin.eq_43, binop.eq_1, binop.eq_2, binop.eq_3, binop.eq_4, binop.eq_5, binop.eq_6, binop.eq_7, binop.eq_8, binop.eq_9, binop.eq_10, binop.eq_11, binop.eq_12, cmpop.eq_1, cmpop.eq_2, cmpop.eq_3, cmpop.eq_4, cmpop.eq_5, cmpop.eq_6, cmpop.eq_7, cmpop.eq_8, cmpop.eq_9, cmpop.eq_10, cmpop.eq_11, cmpop.eq_12, cmpop.eq_13, cmpop.eq_14, cmpop.eq_15, cmpop.eq_16, cmpop.eq_17, cmpop.eq_18, cmpop.eq_19, isScalar, Tg.put.eq_1, Tg.put.eq_2, Tg.puts.eq_1, Tg.puts.eq_2, Nat.zero_le, List.set_cons_zero, List.set_cons_succ, List.getElem?_cons_zero, List.getElem?_cons_succ, List.map_cons, List.map_nil, List.cons_append, List.nil_append, List.replicate_succ, List.replicate_zero, Option.map_some, Option.map_none, Option.bind_some, if_true, if_false, Bool.not_true, Bool.not_false, Nat.sub_self, List.length_cons, List.length_nil, Bool.false_eq_true, reduceCtorEq, and_self, and_true, true_and, decide_true, decide_false, Int.reduceLT, Int.reduceLE, Int.reduceEq, Nat.reduceLeDiff, Nat.reduceAdd, eqOk_ii, eqv_ii, eqOk_ss, eqv_ss, ltOk_ii, lt_ii, l1, l2, l3, l4, Nat.zero_add, eq_self,  Bool.and_self, Bool.and_true, Bool.true_and, List.append_nil])
  refine w_some rl sm (by omega) (by simp) (by simp) fun x a b hx => ?_
  have hx : ∃ z : Int, x = .int z ∧ 1 ≤ z ∧ z ≤ 12 := by
    simp only [List.mem_cons, List.not_mem_nil, or_false] at hx
    rcases hx with rfl | rfl
    · exact ⟨1, rfl, by omega, by omega⟩
    · exact ⟨12, rfl, by omega, by omega⟩
  obtain ⟨y, rfl, y1, y2⟩ := hx
  (try simp only [Int.cast_ofNat_Int, evSs_cons, evSs_none, nxt_nx, nxt_ret, retQ_ret, retQ_nx, W_ok, W_bind, bind_ok', lift_some, cup_view, vw_non, vw_int, vw_bl, vw_str, vw_tup, vw_lst, wipeE, evS.eq_1, evS.eq_2, evS.eq_3, evS.eq_4, evS.eq_5, evS.eq_6, evS.eq_7, evS.eq_8, evS.eq_9, evS.eq_10, evS.eq_11, evE.eq_1, evE.eq_2, evE.eq_3, evE.eq_4, evE.eq_5, evE.eq_6, evE.eq_7, evE.eq_8, evE.eq_9, evE.eq_10, evE.eq_11, evE.eq_12, evE.eq_13, evE.eq_14, evE.eq_15, evE.eq_16, evE.eq_17, evE.eq_18, evE.eq_19, evEs, evO, evC, builtin.eq_1, builtin.eq_2, builtin.eq_3, builtin.eq_4, builtin.eq_5, builtin.eq_6, builtin.eq_7, builtin.eq_8, builtin.eq_9, builtin.eq_10, builtin.eq_11, builtin.eq_12, builtin.eq_13, builtin.eq_14, builtin.eq_15, builtin.eq_16, builtin.eq_17, builtin.eq_18, builtin.eq_19, builtin.eq_20, builtin.eq_21, builtin.eq_22, builtin.eq_23, builtin.eq_24, builtin.eq_25, builtin.eq_26, builtin.eq_27, builtin.eq_28, builtin.eq_29, builtin.eq_30, builtin.eq_31, builtin.eq_32, builtin.eq_33, builtin.eq_34, builtin.eq_35, builtin.eq_36, builtin.eq_37, builtin.eq_38, builtin.eq_39, builtin.eq_40, builtin.eq_41, builtin.eq_42, builtin.eq_43, binop.eq_1, binop.eq_2, binop.eq_3, binop.eq_4, binop.eq_5, binop.eq_6, binop.eq_7, binop.eq_8, binop.eq_9, binop.eq_10, binop.eq_11, binop.eq_12, cmpop.eq_1, cmpop.eq_2, cmpop.eq_3, cmpop.eq_4, cmpop.eq_5, cmpop.eq_6, cmpop.eq_7, cmpop.eq_8, cmpop.eq_9, cmpop.eq_10, cmpop.eq_11, cmpop.eq_12, cmpop.eq_13, cmpop.eq_14, cmpop.eq_15, cmpop.eq_16, cmpop.eq_17, cmpop.eq_18, cmpop.eq_19, isScalar, Tg.put.eq_1, Tg.put.eq_2, Tg.puts.eq_1, Tg.puts.eq_2, Nat.zero_le, List.set_cons_zero, List.set_cons_succ, List.getElem?_cons_zero, List.getElem?_cons_succ, List.map_cons, List.map_nil, List.cons_append, List.nil_append, List.replicate_succ, List.replicate_zero, Option.map_some, Option.map_none, Option.bind_some, if_true, if_false, Bool.not_true, Bool.not_false, Nat.sub_self, List.length_cons, List.length_nil, Bool.false_eq_true, reduceCtorEq, and_self, and_true, true_and, decide_true, decide_false, Int.reduceLT, Int.reduceLE, Int.reduceEq, Nat.reduceLeDiff, Nat.reduceAdd, eqOk_ii, eqv_ii, eqOk_ss, eqv_ss, ltOk_ii, lt_ii, l1, l2, l3, l4, Nat.zero_add, eq_self,  Bool.and_self, Bool.and_true, Bool.true_and, List.append_nil])
  refine w_roll rl (by omega) (by omega) (by omega) fun m a b m0 m1 => ?_
  (try simp only [Int.cast_ofNat_Int, evSs_cons, evSs_none, nxt_nx, nxt_ret, retQ_ret, retQ_nx, W_ok, W_bind, bind_ok', lift_some, cup_view, vw_non, vw_int, vw_bl, vw_str, vw_tup, vw_lst, wipeE, evS.eq_1, evS.eq_2, evS.eq_3, evS.eq_4, evS.eq_5, evS.eq_6, evS.eq_7, evS.eq_8, evS.eq_9, evS.eq_10, evS.eq_11, evE.eq_1, evE.eq_2, evE.eq_3, evE.eq_4, evE.eq_5, evE.eq_6, evE.eq_7, evE.eq_8, evE.eq_9, evE.eq_10, evE.eq_11, evE.eq_12, evE.eq_13, evE.eq_14, evE.eq_15, evE.eq_16, evE.eq_17, evE.eq_18, evE.eq_19, evEs, evO, evC, builtin.eq_1, builtin.eq_2, builtin.eq_3, builtin.eq_4, builtin.eq_5, builtin.eq_6, builtin.eq_7, builtin.eq_8, builtin.eq_9, builtin.eq_10, builtin.eq_11, builtin.eq_12, builtin.eq_13, builtin.eq_14, builtin.eq_15, builtin.eq_16, builtin.eq_17, builtin.eq_18, builtin.eq_19, builtin.eq_20, builtin.eq_21, builtin.eq_22, builtin.eq_23, builtin.eq_24, builtin.eq_25, builtin.eq_26, builtin.eq_27, builtin.eq_28, builtin.eq_29, builtin.eq_30, builtin.eq_31, builtin.eq_32, builtin.eq_33, builtin.eq_34, builtin.eq_35, builtin.eq_36, builtin.eq_37, builtin.eq_38, builtin.eq_39, builtin.eq_40, builtin.eq_41, builtin.eq_42, builtin.eq_43, binop.eq_1, binop.eq_2, binop.eq_3, binop.eq_4, binop.eq_5, binop.eq_6, binop.eq_7, binop.eq_8, binop.eq_9, binop.eq_10, binop.eq_11, binop.eq_12, cmpop.eq_1, cmpop.eq_2, cmpop.eq_3, cmpop.eq_4, cmpop.eq_5, cmpop.eq_6, cmpop.eq_7, cmpop.eq_8, cmpop.eq_9, cmpop.eq_10, cmpop.eq_11, cmpop.eq_12, cmpop.eq_13, cmpop.eq_14, cmpop.eq_15, cmpop.eq_16, cmpop.eq_17, cmpop.eq_18, cmpop.eq_19, isScalar, Tg.put.eq_1, Tg.put.eq_2, Tg.puts.eq_1, Tg.puts.eq_2, Nat.zero_le, List.set_cons_zero, List.set_cons_succ, List.getElem?_cons_zero, List.getElem?_cons_succ, List.map_cons, List.map_nil, List.cons_append, List.nil_append, List.replicate_succ, List.replicate_zero, Option.map_some, Option.map_none, Option.bind_some, if_true, if_false, Bool.not_true, Bool.not_false, Nat.sub_self, List.length_cons, List.length_nil, Bool.false_eq_true, reduceCtorEq, and_self, and_true, true_and, decide_true, decide_false, Int.reduceLT, Int.reduceLE, Int.reduceEq, Nat.reduceLeDiff, Nat.reduceAdd, eqOk_ii, eqv_ii, eqOk_ss, eqv_ss, ltOk_ii, lt_ii, l1, l2, l3, l4, Nat.zero_add, eq_self,  Bool.and_self, Bool.and_true, Bool.true_and, List.append_nil])
  have := go ⟨(1 + w).toNat, d.toNat, (1 + l).toNat, (1 + l + m).toNat⟩ a b ⟨by simp only; omega, by simp only; omega, by simp only; omega, by simp only; omega, by simp only; omega, by simp only; omega, by simp only; omega, by simp only; omega⟩
  simp only [Ru.D] at this
  rw [Int.toNat_of_nonneg (by omega), Int.toNat_of_nonneg (by omega), Int.toNat_of_nonneg (by omega), Int.toNat_of_nonneg (by omega)] at this
  exact this
end
theorem cut_map {α β : Type} (f : α → β) (os : List α) (lo hi : Option Int) : cut (os.map f) lo hi = (cut os lo hi).map f := by
  unfold cut
  rw [List.length_map, List.map_take, List.map_drop]
theorem slc_cut (os : List Int) (lo hi : Option Int) : slice (oD os) lo hi = some (oD (cut os lo hi)) := by
  unfold oD
  rw [← cut_map]
  rfl
theorem cut_mem {α : Type} {os : List α} {lo hi : Option Int} {x : α} (h : x ∈ cut os lo hi) : x ∈ os := List.mem_of_mem_drop (List.mem_of_mem_take h)
theorem cut_len {α : Type} (os : List α) (lo hi : Option Int) : (cut os lo hi).length ≤ os.length := by
  unfold cut
  rw [List.length_take, List.length_drop]
  omega
theorem oct_cut {os : List Int} (h : Oct os) (lo hi : Option Int) : Oct (cut os lo hi) := fun o ho => h o (cut_mem ho)
theorem oct_app {a b : List Int} (h : Oct a) (g : Oct b) : Oct (a ++ b) := fun o ho => by
  rcases List.mem_append.mp ho with ho | ho
  · exact h o ho
  · exact g o ho
theorem rep3 (os : List Int) : rep (os.map .int) 3 = (os ++ (os ++ os)).map .int := by
  show (List.replicate 3 (os.map D.int)).flatten = _
  simp [List.replicate]
section
variable {k : Nat} {S : Sto}
theorem w_octets (hk : 4 ≤ k) {m : Int} (m0 : 0 ≤ m) (m1 : m ≤ 60) {a b : Int} {Q : D → Sto → Prop} (go : ∀ (os : List Int) (a b : Int), Oct os → os.length ≤ 5000 → Q (oD os) (Cup a b [])) : W (callP prog k "_law_octets" [.ref 0, .int m] (Cup a b [])) Q := by
  refine W_call (by omega) rfl rfl fun j hj => ?_
  simp only [f__law_octets, Int.cast_ofNat_Int, evSs_cons, evSs_none, nxt_nx, nxt_ret, retQ_ret, retQ_nx, W_ok, W_bind, bind_ok', lift_some, cup_view, vw_non, vw_int, vw_bl, vw_str, vw_tup, vw_lst, wipeE, evS.eq_1, evS.eq_2, evS.eq_3, evS.eq_4, evS.eq_5, evS.eq_6, evS.eq_7, evS.eq_8, evS.eq_9, evS.eq_10, evS.eq_11, evE.eq_1, evE.eq_2, evE.eq_3, evE.eq_4, evE.eq_5, evE.eq_6, evE.eq_7, evE.eq_8, evE.eq_9, evE.eq_10, evE.eq_11, evE.eq_12, evE.eq_13, evE.eq_14, evE.eq_15, evE.eq_16, evE.eq_17, evE.eq_18, evE.eq_19, evEs, evO, evC, builtin.eq_1, builtin.eq_2, builtin.eq_3, builtin.eq_4, builtin.eq_5, builtin.eq_6, builtin.eq_7, builtin.eq_8, builtin.eq_9, builtin.eq_10, builtin.eq_11, builtin.eq_12, builtin.eq_13, builtin.eq_14, builtin.eq_15, builtin.eq_16, builtin.eq_17, builtin.eq_18, builtin.eq_19, builtin.eq_20, builtin.eq_21, builtin.eq_22, builtin.eq_23, builtin.eq_24, builtin.eq_25, builtin.eq_26, builtin.eq_27, builtin.eq_28, builtin.eq_29, builtin.eq_30, builtin.eq_31, builtin.eq_32, builtin.eq_33, builtin.eq_34, builtin.eq_35, builtin.eq_36, builtin.eq_37, builtin.eq_38, builtin.eq_39, builtin.eq_40, builtin.eq_41, builtin.eq_42, builtin.eq_43, binop.eq_1, binop.eq_2, binop.eq_3, binop.eq_4, binop.eq_5, binop.eq_6, binop.eq_7, binop.eq_8, binop.eq_9, binop.eq_10, binop.eq_11, binop.eq_12, cmpop.eq_1, cmpop.eq_2, cmpop.eq_3, cmpop.eq_4, cmpop.eq_5, cmpop.eq_6, cmpop.eq_7, cmpop.eq_8, cmpop.eq_9, cmpop.eq_10, cmpop.eq_11, cmpop.eq_12, cmpop.eq_13, cmpop.eq_14, cmpop.eq_15, cmpop.eq_16, cmpop.eq_17, cmpop.eq_18, cmpop.eq_19, isScalar, Tg.put.eq_1, Tg.put.eq_2, Tg.puts.eq_1, Tg.puts.eq_2, Nat.zero_le, List.set_cons_zero, List.set_cons_succ, List.getElem?_cons_zero, List.getElem?_cons_succ, List.map_cons, List.map_nil, List.cons_append, List.nil_append, List.replicate_succ, List.replicate_zero, Option.map_some, Option.map_none, Option.bind_some, if_true, if_false, Bool.not_true, Bool.not_false, Nat.sub_self, List.length_cons, List.length_nil, Bool.false_eq_true, reduceCtorEq, and_self, and_true, true_and, decide_true, decide_false, Int.reduceLT, Int.reduceLE, Int.reduceEq, Nat.reduceLeDiff, Nat.reduceAdd, eqOk_ii, eqv_ii, eqOk_ss, eqv_ss, ltOk_ii, lt_ii, l1, l2, l3, l4, Nat.zero_add, eq_self,  Bool.and_self, Bool.and_true, Bool.true_and, List.append_nil]
  refine W_for (fun i : Nat => D.int (i : Int)) ?_
  (try simp only [Int.cast_ofNat_Int, evSs_cons, evSs_none, nxt_nx, nxt_ret, retQ_ret, retQ_nx, W_ok, W_bind, bind_ok', lift_some, cup_view, vw_non, vw_int, vw_bl, vw_str, vw_tup, vw_lst, wipeE, evS.eq_1, evS.eq_2, evS.eq_3, evS.eq_4, evS.eq_5, evS.eq_6, evS.eq_7, evS.eq_8, evS.eq_9, evS.eq_10, evS.eq_11, evE.eq_1, evE.eq_2, evE.eq_3, evE.eq_4, evE.eq_5, evE.eq_6, evE.eq_7, evE.eq_8, evE.eq_9, evE.eq_10, evE.eq_11, evE.eq_12, evE.eq_13, evE.eq_14, evE.eq_15, evE.eq_16, evE.eq_17, evE.eq_18, evE.eq_19, evEs, evO, evC, builtin.eq_1, builtin.eq_2, builtin.eq_3, builtin.eq_4, builtin.eq_5, builtin.eq_6, builtin.eq_7, builtin.eq_8, builtin.eq_9, builtin.eq_10, builtin.eq_11, builtin.eq_12, builtin.eq_13, builtin.eq_14, builtin.eq_15, builtin.eq_16, builtin.eq_17, builtin.eq_18, builtin.eq_19, builtin.eq_20, builtin.eq_21, builtin.eq_22, builtin.eq_23, builtin.eq_24, builtin.eq_25, builtin.eq_26, builtin.eq_27, builtin.eq_28, builtin.eq_29, builtin.eq_30, builtin.eq_31, builtin.eq_32, builtin.eq_33, builtin.eq_34, builtin.eq_35, builtin.eq_36, builtin.eq_37, builtin.eq_38, builtin.eq_39, builtin.eq_40, builtin.eq_41, builtin.eq_42, builtin.eq_43, binop.eq_1, binop.eq_2, binop.eq_3, binop.eq_4, binop.eq_5, binop.eq_6, binop.eq_7, binop.eq_8, binop.eq_9, binop.eq_10, binop.eq_11, binop.eq_12, cmpop.eq_1, cmpop.eq_2, cmpop.eq_3, cmpop.eq_4, cmpop.eq_5, cmpop.eq_6, cmpop.eq_7, cmpop.eq_8, cmpop.eq_9, cmpop.eq_10, cmpop.eq_11, cmpop.eq_12, cmpop.eq_13, cmpop.eq_14, cmpop.eq_15, cmpop.eq_16, cmpop.eq_17, cmpop.eq_18, cmpop.eq_19, isScalar, Tg.put.eq_1, Tg.put.eq_2, Tg.puts.eq_1, Tg.puts.eq_2, Nat.zero_le, List.set_cons_zero, List.set_cons_succ, List.getElem?_cons_zero, List.getElem?_cons_succ, List.map_cons, List.map_nil, List.cons_append, List.nil_append, List.replicate_succ, List.replicate_zero, Option.map_some, Option.map_none, Option.bind_some, if_true, if_false, Bool.not_true, Bool.not_false, Nat.sub_self, List.length_cons, List.length_nil, Bool.false_eq_true, reduceCtorEq, and_self, and_true, true_and, decide_true, decide_false, Int.reduceLT, Int.reduceLE, Int.reduceEq, Nat.reduceLeDiff, Nat.reduceAdd, eqOk_ii, eqv_ii, eqOk_ss, eqv_ss, ltOk_ii, lt_ii, l1, l2, l3, l4, Nat.zero_add, eq_self,  Bool.and_self, Bool.and_true, Bool.true_and, List.append_nil])
  refine w_roll rl (by omega) (by omega) (by omega) fun t a b t0 t1 => ?_
  (try simp only [Int.cast_ofNat_Int, evSs_cons, evSs_none, nxt_nx, nxt_ret, retQ_ret, retQ_nx, W_ok, W_bind, bind_ok', lift_some, cup_view, vw_non, vw_int, vw_bl, vw_str, vw_tup, vw_lst, wipeE, evS.eq_1, evS.eq_2, evS.eq_3, evS.eq_4, evS.eq_5, evS.eq_6, evS.eq_7, evS.eq_8, evS.eq_9, evS.eq_10, evS.eq_11, evE.eq_1, evE.eq_2, evE.eq_3, evE.eq_4, evE.eq_5, evE.eq_6, evE.eq_7, evE.eq_8, evE.eq_9, evE.eq_10, evE.eq_11, evE.eq_12, evE.eq_13, evE.eq_14, evE.eq_15, evE.eq_16, evE.eq_17, evE.eq_18, evE.eq_19, evEs, evO, evC, builtin.eq_1, builtin.eq_2, builtin.eq_3, builtin.eq_4, builtin.eq_5, builtin.eq_6, builtin.eq_7, builtin.eq_8, builtin.eq_9, builtin.eq_10, builtin.eq_11, builtin.eq_12, builtin.eq_13, builtin.eq_14, builtin.eq_15, builtin.eq_16, builtin.eq_17, builtin.eq_18, builtin.eq_19, builtin.eq_20, builtin.eq_21, builtin.eq_22, builtin.eq_23, builtin.eq_24, builtin.eq_25, builtin.eq_26, builtin.eq_27, builtin.eq_28, builtin.eq_29, builtin.eq_30, builtin.eq_31, builtin.eq_32, builtin.eq_33, builtin.eq_34, builtin.eq_35, builtin.eq_36, builtin.eq_37, builtin.eq_38, builtin.eq_39, builtin.eq_40, builtin.eq_41, builtin.eq_42, builtin.eq_43, binop.eq_1, binop.eq_2, binop.eq_3, binop.eq_4, binop.eq_5, binop.eq_6, binop.eq_7, binop.eq_8, binop.eq_9, binop.eq_10, binop.eq_11, binop.eq_12, cmpop.eq_1, cmpop.eq_2, cmpop.eq_3, cmpop.eq_4, cmpop.eq_5, cmpop.eq_6, cmpop.eq_7, cmpop.eq_8, cmpop.eq_9, cmpop.eq_10, cmpop.eq_11, cmpop.eq_12, cmpop.eq_13, cmpop.eq_14, cmpop.eq_15, cmpop.eq_16, cmpop.eq_17, cmpop.eq_18, cmpop.eq_19, isScalar, Tg.put.eq_1, Tg.put.eq_2, Tg.puts.eq_1, Tg.puts.eq_2, Nat.zero_le, List.set_cons_zero, List.set_cons_succ, List.getElem?_cons_zero, List.getElem?_cons_succ, List.map_cons, List.map_nil, List.cons_append, List.nil_append, List.replicate_succ, List.replicate_zero, Option.map_some, Option.map_none, Option.bind_some, if_true, if_false, Bool.not_true, Bool.not_false, Nat.sub_self, List.length_cons, List.length_nil, Bool.false_eq_true, reduceCtorEq, and_self, and_true, true_and, decide_true, decide_false, Int.reduceLT, Int.reduceLE, Int.reduceEq, Nat.reduceLeDiff, Nat.reduceAdd, eqOk_ii, eqv_ii, eqOk_ss, eqv_ss, ltOk_ii, lt_ii, l1, l2, l3, l4, Nat.zero_add, eq_self,  Bool.and_self, Bool.and_true, Bool.true_and, List.append_nil])
  refine ⟨List.range t.toNat, fun pre en T => ∃ (fs : List Int) (a b : Int) (y : Option D), en = [some (.ref 0), some (.int m), some (oD fs), y, none] ∧ Oct fs ∧ fs.length + 100 ≤ 100 * 2 ^ pre.length ∧ T = Cup a b [], walk_rng (by omega) (by omega), rfl, ⟨[], a, b, none, rfl, fun o h => by simp at h, by simp, rfl⟩, (fun pre i suf en T e h => ?_), fun en T h => ?_⟩
  · obtain ⟨fs, a, b, y, rfl, ho, hf, rfl⟩ := h
    have hp : pre.length < t.toNat := by
      have := congrArg List.length e
      rw [List.length_range, List.length_append, List.length_cons] at this
      omega
    have hp2 : 2 ^ pre.length ≤ 2 ^ 3 := Nat.pow_le_pow_right (by omega) (by omega)
    simp only [bodyF, Int.cast_ofNat_Int, evSs_cons, evSs_none, nxt_nx, nxt_ret, retQ_ret, retQ_nx, W_ok, W_bind, bind_ok', lift_some, cup_view, vw_non, vw_int, vw_bl, vw_str, vw_tup, vw_lst, wipeE, evS.eq_1, evS.eq_2, evS.eq_3, evS.eq_4, evS.eq_5, evS.eq_6, evS.eq_7, evS.eq_8, evS.eq_9, evS.eq_10, evS.eq_11, evE.eq_1, evE.eq_2, evE.eq_3, evE.eq_4, evE.eq_5, evE.eq_6, evE.eq_7, evE.eq_8, evE.eq_9, evE.eq_10, evE.eq_11, evE.eq_12, evE.eq_13, evE.eq_14, evE.eq_15, evE.eq_16, evE.eq_17, evE.eq_18, evE.eq_19, evEs, evO, evC, builtin.eq_1, builtin.eq_2, builtin.eq_3, builtin.eq_4, builtin.eq_5, builtin.eq_6, builtin.eq_7, builtin.eq_8, builtin.eq_9, builtin.eq_10, builtin.eq_11, builtin.eq_12, builtin.eq_13, builtin.eq_14, builtin.eq_15, builtin.eq_16, builtin.eq_17, builtin.eq_18, builtin.eq_19, builtin.eq_20, builtin.eq_21, builtin.eq_22, builtin.eq_23, builtin.eq_24, builtin.eq_25, builtin.eq_26, builtin.eq_27, builtin.eq_28, builtin.eq_29, builtin.eq_30, builtin.eq_31, builtin.eq_32, builtin.eq_33, builtin.eq_34, builtin.eq_35, builtin.eq_36, builtin.eq_37, builtin.eq_38, builtin.eq_39, builtin.eq_40, builtin.eq_41, builtin.eq_42, builtin.eq_43, binop.eq_1, binop.eq_2, binop.eq_3, binop.eq_4, binop.eq_5, binop.eq_6, binop.eq_7, binop.eq_8, binop.eq_9, binop.eq_10, binop.eq_11, binop.eq_12, cmpop.eq_1, cmpop.eq_2, cmpop.eq_3, cmpop.eq_4, cmpop.eq_5, cmpop.eq_6, cmpop.eq_7, cmpop.eq_8, cmpop.eq_9, cmpop.eq_10, cmpop.eq_11, cmpop.eq_12, cmpop.eq_13, cmpop.eq_14, cmpop.eq_15, cmpop.eq_16, cmpop.eq_17, cmpop.eq_18, cmpop.eq_19, isScalar, Tg.put.eq_1, Tg.put.eq_2, Tg.puts.eq_1, Tg.puts.eq_2, Nat.zero_le, List.set_cons_zero, List.set_cons_succ, List.getElem?_cons_zero, List.getElem?_cons_succ, List.map_cons, List.map_nil, List.cons_append, List.nil_append, List.replicate_succ, List.replicate_zero, Option.map_some, Option.map_none, Option.bind_some, if_true, if_false, Bool.not_true, Bool.not_false, Nat.sub_self, List.length_cons, List.length_nil, Bool.false_eq_true, reduceCtorEq, and_self, and_true, true_and, decide_true, decide_false, Int.reduceLT, Int.reduceLE, Int.reduceEq, Nat.reduceLeDiff, Nat.reduceAdd, eqOk_ii, eqv_ii, eqOk_ss, eqv_ss, ltOk_ii, lt_ii, l1, l2, l3, l4, Nat.zero_add, eq_self,  Bool.and_self, Bool.and_true, Bool.true_and, List.append_nil]
    refine w_file rl sm rfl (by omega) m0 (by omega) fun f1 a b o1 n1 => ?_
    (try simp only [Int.cast_ofNat_Int, evSs_cons, evSs_none, nxt_nx, nxt_ret, retQ_ret, retQ_nx, W_ok, W_bind, bind_ok', lift_some, cup_view, vw_non, vw_int, vw_bl, vw_str, vw_tup, vw_lst, wipeE, evS.eq_1, evS.eq_2, evS.eq_3, evS.eq_4, evS.eq_5, evS.eq_6, evS.eq_7, evS.eq_8, evS.eq_9, evS.eq_10, evS.eq_11, evE.eq_1, evE.eq_2, evE.eq_3, evE.eq_4, evE.eq_5, evE.eq_6, evE.eq_7, evE.eq_8, evE.eq_9, evE.eq_10, evE.eq_11, evE.eq_12, evE.eq_13, evE.eq_14, evE.eq_15, evE.eq_16, evE.eq_17, evE.eq_18, evE.eq_19, evEs, evO, evC, builtin.eq_1, builtin.eq_2, builtin.eq_3, builtin.eq_4, builtin.eq_5, builtin.eq_6, builtin.eq_7, builtin.eq_8, builtin.eq_9, builtin.eq_10, builtin.eq_11, builtin.eq_12, builtin.eq_13, builtin.eq_14, builtin.eq_15, builtin.eq_16, builtin.eq_17, builtin.eq_18, builtin.eq_19, builtin.eq_20, builtin.eq_21, builtin.eq_22, builtin.eq_23, builtin.eq_24, builtin.eq_25, builtin.eq_26, builtin.eq_27, builtin.eq_28, builtin.eq_29, builtin.eq_30, builtin.eq_31, builtin.eq_32, builtin.eq_33, builtin.eq_34, builtin.eq_35, builtin.eq_36, builtin.eq_37, builtin.eq_38, builtin.eq_39, builtin.eq_40, builtin.eq_41, builtin.eq_42, builtin.eq_43, binop.eq_1, binop.eq_2, binop.eq_3, binop.eq_4, binop.eq_5, binop.eq_6, binop.eq_7, binop.eq_8, binop.eq_9, binop.eq_10, binop.eq_11, binop.eq_12, cmpop.eq_1, cmpop.eq_2, cmpop.eq_3, cmpop.eq_4, cmpop.eq_5, cmpop.eq_6, cmpop.eq_7, cmpop.eq_8, cmpop.eq_9, cmpop.eq_10, cmpop.eq_11, cmpop.eq_12, cmpop.eq_13, cmpop.eq_14, cmpop.eq_15, cmpop.eq_16, cmpop.eq_17, cmpop.eq_18, cmpop.eq_19, isScalar, Tg.put.eq_1, Tg.put.eq_2, Tg.puts.eq_1, Tg.puts.eq_2, Nat.zero_le, List.set_cons_zero, List.set_cons_succ, List.getElem?_cons_zero, List.getElem?_cons_succ, List.map_cons, List.map_nil, List.cons_append, List.nil_append, List.replicate_succ, List.replicate_zero, Option.map_some, Option.map_none, Option.bind_some, if_true, if_false, Bool.not_true, Bool.not_false, Nat.sub_self, List.length_cons, List.length_nil, Bool.false_eq_true, reduceCtorEq, and_self, and_true, true_and, decide_true, decide_false, Int.reduceLT, Int.reduceLE, Int.reduceEq, Nat.reduceLeDiff, Nat.reduceAdd, eqOk_ii, eqv_ii, eqOk_ss, eqv_ss, ltOk_ii, lt_ii, l1, l2, l3, l4, Nat.zero_add, eq_self,  Bool.and_self, Bool.and_true, Bool.true_and, List.append_nil])
    refine w_file rl sm rfl (by omega) (by omega) (by omega) fun f2 a b o2 n2 => ?_
    have c1 : ((3 : Int).natAbs < 2 ^ 62 ∧ (f2.map D.int).length * (3 : Int).toNat ≤ line) := by
      rw [List.length_map]
      refine ⟨by decide, ?_⟩
      rw [show (3 : Int).toNat = 3 by rfl]
      unfold line
      omega
    have dv : divOk 2 = true := by decide +kernel
    simp only [Int.cast_ofNat_Int, evSs_cons, evSs_none, nxt_nx, nxt_ret, retQ_ret, retQ_nx, W_ok, W_bind, bind_ok', lift_some, cup_view, vw_non, vw_int, vw_bl, vw_str, vw_tup, vw_lst, wipeE, evS.eq_1, evS.eq_2, evS.eq_3, evS.eq_4, evS.eq_5, evS.eq_6, evS.eq_7, evS.eq_8, evS.eq_9, evS.eq_10, evS.eq_11, evE.eq_1, evE.eq_2, evE.eq_3, evE.eq_4, evE.eq_5, evE.eq_6, evE.eq_7, evE.eq_8, evE.eq_9, evE.eq_10, evE.eq_11, evE.eq_12, evE.eq_13, evE.eq_14, evE.eq_15, evE.eq_16, evE.eq_17, evE.eq_18, evE.eq_19, evEs, evO, evC, builtin.eq_1, builtin.eq_2, builtin.eq_3, builtin.eq_4, builtin.eq_5, builtin.eq_6, builtin.eq_7, builtin.eq_8, builtin.eq_9, builtin.eq_10, builtin.eq_11, builtin.eq_12, builtin.eq_13, builtin.eq_14, builtin.eq_15, builtin.eq_16, builtin.eq_17, builtin.eq_18, builtin.eq_19, builtin.eq_20, builtin.eq_21, builtin.eq_22, builtin.eq_23, builtin.eq_24, builtin.eq_25, builtin.eq_26, builtin.eq_27, builtin.eq_28, builtin.eq_29, builtin.eq_30, builtin.eq_31, builtin.eq_32, builtin.eq_33, builtin.eq_34, builtin.eq_35, builtin.eq_36, builtin.eq_37, builtin.eq_38, builtin.eq_39, builtin.eq_40, builtin.eq_41, builtin.eq_42, builtin.eq_43, binop.eq_1, binop.eq_2, binop.eq_3, binop.eq_4, binop.eq_5, binop.eq_6, binop.eq_7, binop.eq_8, binop.eq_9, binop.eq_10, binop.eq_11, binop.eq_12, cmpop.eq_1, cmpop.eq_2, cmpop.eq_3, cmpop.eq_4, cmpop.eq_5, cmpop.eq_6, cmpop.eq_7, cmpop.eq_8, cmpop.eq_9, cmpop.eq_10, cmpop.eq_11, cmpop.eq_12, cmpop.eq_13, cmpop.eq_14, cmpop.eq_15, cmpop.eq_16, cmpop.eq_17, cmpop.eq_18, cmpop.eq_19, isScalar, Tg.put.eq_1, Tg.put.eq_2, Tg.puts.eq_1, Tg.puts.eq_2, Nat.zero_le, List.set_cons_zero, List.set_cons_succ, List.getElem?_cons_zero, List.getElem?_cons_succ, List.map_cons, List.map_nil, List.cons_append, List.nil_append, List.replicate_succ, List.replicate_zero, Option.map_some, Option.map_none, Option.bind_some, if_true, if_false, Bool.not_true, Bool.not_false, Nat.sub_self, List.length_cons, List.length_nil, Bool.false_eq_true, reduceCtorEq, and_self, and_true, true_and, decide_true, decide_false, Int.reduceLT, Int.reduceLE, Int.reduceEq, Nat.reduceLeDiff, Nat.reduceAdd, eqOk_ii, eqv_ii, eqOk_ss, eqv_ss, ltOk_ii, lt_ii, l1, l2, l3, l4, Nat.zero_add, eq_self,  Bool.and_self, Bool.and_true, Bool.true_and, List.append_nil, c1, rep3, vw_oD, slc_cut, dv]
    refine W_comp (fun i : Nat => D.int (i : Int)) ?_
    simp only [Int.cast_ofNat_Int, evSs_cons, evSs_none, nxt_nx, nxt_ret, retQ_ret, retQ_nx, W_ok, W_bind, bind_ok', lift_some, cup_view, vw_non, vw_int, vw_bl, vw_str, vw_tup, vw_lst, wipeE, evS.eq_1, evS.eq_2, evS.eq_3, evS.eq_4, evS.eq_5, evS.eq_6, evS.eq_7, evS.eq_8, evS.eq_9, evS.eq_10, evS.eq_11, evE.eq_1, evE.eq_2, evE.eq_3, evE.eq_4, evE.eq_5, evE.eq_6, evE.eq_7, evE.eq_8, evE.eq_9, evE.eq_10, evE.eq_11, evE.eq_12, evE.eq_13, evE.eq_14, evE.eq_15, evE.eq_16, evE.eq_17, evE.eq_18, evE.eq_19, evEs, evO, evC, builtin.eq_1, builtin.eq_2, builtin.eq_3, builtin.eq_4, builtin.eq_5, builtin.eq_6, builtin.eq_7, builtin.eq_8, builtin.eq_9, builtin.eq_10, builtin.eq_11, builtin.eq_12, builtin.eq_13, builtin.eq_14, builtin.eq_15, builtin.eq_16, builtin.eq_17, builtin.eq_18, builtin.eq_19, builtin.eq_20, builtin.eq_21, builtin.eq_22, builtin.eq_23, builtin.eq_24, builtin.eq_25, builtin.eq_26, builtin.eq_27, builtin.eq_28, builtin.eq_29, builtin.eq_30, builtin.eq_31, builtin.eq_32, builtin.eq_33, builtin.eq_34, builtin.eq_35, builtin.eq_36, builtin.eq_37, builtin.eq_38, builtin.eq_39, builtin.eq_40, builtin.eq_41, builtin.eq_42, builtin.eq_43, binop.eq_1, binop.eq_2, binop.eq_3, binop.eq_4, binop.eq_5, binop.eq_6, binop.eq_7, binop.eq_8, binop.eq_9, binop.eq_10, binop.eq_11, binop.eq_12, cmpop.eq_1, cmpop.eq_2, cmpop.eq_3, cmpop.eq_4, cmpop.eq_5, cmpop.eq_6, cmpop.eq_7, cmpop.eq_8, cmpop.eq_9, cmpop.eq_10, cmpop.eq_11, cmpop.eq_12, cmpop.eq_13, cmpop.eq_14, cmpop.eq_15, cmpop.eq_16, cmpop.eq_17, cmpop.eq_18, cmpop.eq_19, isScalar, Tg.put.eq_1, Tg.put.eq_2, Tg.puts.eq_1, Tg.puts.eq_2, Nat.zero_le, List.set_cons_zero, List.set_cons_succ, List.getElem?_cons_zero, List.getElem?_cons_succ, List.map_cons, List.map_nil, List.cons_append, List.nil_append, List.replicate_succ, List.replicate_zero, Option.map_some, Option.map_none, Option.bind_some, if_true, if_false, Bool.not_true, Bool.not_false, Nat.sub_self, List.length_cons, List.length_nil, Bool.false_eq_true, reduceCtorEq, and_self, and_true, true_and, decide_true, decide_false, Int.reduceLT, Int.reduceLE, Int.reduceEq, Nat.reduceLeDiff, Nat.reduceAdd, eqOk_ii, eqv_ii, eqOk_ss, eqv_ss, ltOk_ii, lt_ii, l1, l2, l3, l4, Nat.zero_add, eq_self,  Bool.and_self, Bool.and_true, Bool.true_and, List.append_nil, dv]
    refine ⟨List.range (m / 2).toNat, fun pre acc S => ∃ (os : List Int) (a b : Int), acc = os.map .int ∧ os.length = pre.length ∧ Oct os ∧ S = Cup a b [], walk_rng (by omega) (by omega), rfl, (by simp [line]; omega), ⟨[], a, b, rfl, rfl, (fun o h => by simp at h), rfl⟩, (fun pr i sf acc S e h => ?_), fun acc S h => ?_⟩
    · obtain ⟨os, a, b, rfl, hl, ho, rfl⟩ := h
      simp only [bodyC, Int.cast_ofNat_Int, evSs_cons, evSs_none, nxt_nx, nxt_ret, retQ_ret, retQ_nx, W_ok, W_bind, bind_ok', lift_some, cup_view, vw_non, vw_int, vw_bl, vw_str, vw_tup, vw_lst, wipeE, evS.eq_1, evS.eq_2, evS.eq_3, evS.eq_4, evS.eq_5, evS.eq_6, evS.eq_7, evS.eq_8, evS.eq_9, evS.eq_10, evS.eq_11, evE.eq_1, evE.eq_2, evE.eq_3, evE.eq_4, evE.eq_5, evE.eq_6, evE.eq_7, evE.eq_8, evE.eq_9, evE.eq_10, evE.eq_11, evE.eq_12, evE.eq_13, evE.eq_14, evE.eq_15, evE.eq_16, evE.eq_17, evE.eq_18, evE.eq_19, evEs, evO, evC, builtin.eq_1, builtin.eq_2, builtin.eq_3, builtin.eq_4, builtin.eq_5, builtin.eq_6, builtin.eq_7, builtin.eq_8, builtin.eq_9, builtin.eq_10, builtin.eq_11, builtin.eq_12, builtin.eq_13, builtin.eq_14, builtin.eq_15, builtin.eq_16, builtin.eq_17, builtin.eq_18, builtin.eq_19, builtin.eq_20, builtin.eq_21, builtin.eq_22, builtin.eq_23, builtin.eq_24, builtin.eq_25, builtin.eq_26, builtin.eq_27, builtin.eq_28, builtin.eq_29, builtin.eq_30, builtin.eq_31, builtin.eq_32, builtin.eq_33, builtin.eq_34, builtin.eq_35, builtin.eq_36, builtin.eq_37, builtin.eq_38, builtin.eq_39, builtin.eq_40, builtin.eq_41, builtin.eq_42, builtin.eq_43, binop.eq_1, binop.eq_2, binop.eq_3, binop.eq_4, binop.eq_5, binop.eq_6, binop.eq_7, binop.eq_8, binop.eq_9, binop.eq_10, binop.eq_11, binop.eq_12, cmpop.eq_1, cmpop.eq_2, cmpop.eq_3, cmpop.eq_4, cmpop.eq_5, cmpop.eq_6, cmpop.eq_7, cmpop.eq_8, cmpop.eq_9, cmpop.eq_10, cmpop.eq_11, cmpop.eq_12, cmpop.eq_13, cmpop.eq_14, cmpop.eq_15, cmpop.eq_16, cmpop.eq_17, cmpop.eq_18, cmpop.eq_19, isScalar, Tg.put.eq_1, Tg.put.eq_2, Tg.puts.eq_1, Tg.puts.eq_2, Nat.zero_le, List.set_cons_zero, List.set_cons_succ, List.getElem?_cons_zero, List.getElem?_cons_succ, List.map_cons, List.map_nil, List.cons_append, List.nil_append, List.replicate_succ, List.replicate_zero, Option.map_some, Option.map_none, Option.bind_some, if_true, if_false, Bool.not_true, Bool.not_false, Nat.sub_self, List.length_cons, List.length_nil, Bool.false_eq_true, reduceCtorEq, and_self, and_true, true_and, decide_true, decide_false, Int.reduceLT, Int.reduceLE, Int.reduceEq, Nat.reduceLeDiff, Nat.reduceAdd, eqOk_ii, eqv_ii, eqOk_ss, eqv_ss, ltOk_ii, lt_ii, l1, l2, l3, l4, Nat.zero_add, eq_self,  Bool.and_self, Bool.and_true, Bool.true_and, List.append_nil]
      refine w_roll rl (by omega) (by omega) (by omega) fun c a b c0 c1 => ?_
      (try simp only [Int.cast_ofNat_Int, evSs_cons, evSs_none, nxt_nx, nxt_ret, retQ_ret, retQ_nx, W_ok, W_bind, bind_ok', lift_some, cup_view, vw_non, vw_int, vw_bl, vw_str, vw_tup, vw_lst, wipeE, evS.eq_1, evS.eq_2, evS.eq_3, evS.eq_4, evS.eq_5, evS.eq_6, evS.eq_7, evS.eq_8, evS.eq_9, evS.eq_10, evS.eq_11, evE.eq_1, evE.eq_2, evE.eq_3, evE.eq_4, evE.eq_5, evE.eq_6, evE.eq_7, evE.eq_8, evE.eq_9, evE.eq_10, evE.eq_11, evE.eq_12, evE.eq_13, evE.eq_14, evE.eq_15, evE.eq_16, evE.eq_17, evE.eq_18, evE.eq_19, evEs, evO, evC, builtin.eq_1, builtin.eq_2, builtin.eq_3, builtin.eq_4, builtin.eq_5, builtin.eq_6, builtin.eq_7, builtin.eq_8, builtin.eq_9, builtin.eq_10, builtin.eq_11, builtin.eq_12, builtin.eq_13, builtin.eq_14, builtin.eq_15, builtin.eq_16, builtin.eq_17, builtin.eq_18, builtin.eq_19, builtin.eq_20, builtin.eq_21, builtin.eq_22, builtin.eq_23, builtin.eq_24, builtin.eq_25, builtin.eq_26, builtin.eq_27, builtin.eq_28, builtin.eq_29, builtin.eq_30, builtin.eq_31, builtin.eq_32, builtin.eq_33, builtin.eq_34, builtin.eq_35, builtin.eq_36, builtin.eq_37, builtin.eq_38, builtin.eq_39, builtin.eq_40, builtin.eq_41, builtin.eq_42, builtin.eq_43, binop.eq_1, binop.eq_2, binop.eq_3, binop.eq_4, binop.eq_5, binop.eq_6, binop.eq_7, binop.eq_8, binop.eq_9, binop.eq_10, binop.eq_11, binop.eq_12, cmpop.eq_1, cmpop.eq_2, cmpop.eq_3, cmpop.eq_4, cmpop.eq_5, cmpop.eq_6, cmpop.eq_7, cmpop.eq_8, cmpop.eq_9, cmpop.eq_10, cmpop.eq_11, cmpop.eq_12, cmpop.eq_13, cmpop.eq_14, cmpop.eq_15, cmpop.eq_16, cmpop.eq_17, cmpop.eq_18, cmpop.eq_19, isScalar, Tg.put.eq_1, Tg.put.eq_2, Tg.puts.eq_1, Tg.puts.eq_2, Nat.zero_le, List.set_cons_zero, List.set_cons_succ, List.getElem?_cons_zero, List.getElem?_cons_succ, List.map_cons, List.map_nil, List.cons_append, List.nil_append, List.replicate_succ, List.replicate_zero, Option.map_some, Option.map_none, Option.bind_some, if_true, if_false, Bool.not_true, Bool.not_false, Nat.sub_self, List.length_cons, List.length_nil, Bool.false_eq_true, reduceCtorEq, and_self, and_true, true_and, decide_true, decide_false, Int.reduceLT, Int.reduceLE, Int.reduceEq, Nat.reduceLeDiff, Nat.reduceAdd, eqOk_ii, eqv_ii, eqOk_ss, eqv_ss, ltOk_ii, lt_ii, l1, l2, l3, l4, Nat.zero_add, eq_self,  Bool.and_self, Bool.and_true, Bool.true_and, List.append_nil])
      refine ⟨os ++ [c], a, b, by rw [List.map_append]; rfl, by rw [List.length_append, List.length_append, hl]; rfl, fun q hq => ?_, rfl⟩
      rcases List.mem_append.mp hq with hq | hq
      · exact ho q hq
      · rw [List.mem_singleton.mp hq]; exact ⟨c0, by omega⟩
    · obtain ⟨ts, a, b, rfl, hl, ht, rfl⟩ := h
      rw [List.length_range] at hl
      (try simp only [Int.cast_ofNat_Int, evSs_cons, evSs_none, nxt_nx, nxt_ret, retQ_ret, retQ_nx, W_ok, W_bind, bind_ok', lift_some, cup_view, vw_non, vw_int, vw_bl, vw_str, vw_tup, vw_lst, wipeE, evS.eq_1, evS.eq_2, evS.eq_3, evS.eq_4, evS.eq_5, evS.eq_6, evS.eq_7, evS.eq_8, evS.eq_9, evS.eq_10, evS.eq_11, evE.eq_1, evE.eq_2, evE.eq_3, evE.eq_4, evE.eq_5, evE.eq_6, evE.eq_7, evE.eq_8, evE.eq_9, evE.eq_10, evE.eq_11, evE.eq_12, evE.eq_13, evE.eq_14, evE.eq_15, evE.eq_16, evE.eq_17, evE.eq_18, evE.eq_19, evEs, evO, evC, builtin.eq_1, builtin.eq_2, builtin.eq_3, builtin.eq_4, builtin.eq_5, builtin.eq_6, builtin.eq_7, builtin.eq_8, builtin.eq_9, builtin.eq_10, builtin.eq_11, builtin.eq_12, builtin.eq_13, builtin.eq_14, builtin.eq_15, builtin.eq_16, builtin.eq_17, builtin.eq_18, builtin.eq_19, builtin.eq_20, builtin.eq_21, builtin.eq_22, builtin.eq_23, builtin.eq_24, builtin.eq_25, builtin.eq_26, builtin.eq_27, builtin.eq_28, builtin.eq_29, builtin.eq_30, builtin.eq_31, builtin.eq_32, builtin.eq_33, builtin.eq_34, builtin.eq_35, builtin.eq_36, builtin.eq_37, builtin.eq_38, builtin.eq_39, builtin.eq_40, builtin.eq_41, builtin.eq_42, builtin.eq_43, binop.eq_1, binop.eq_2, binop.eq_3, binop.eq_4, binop.eq_5, binop.eq_6, binop.eq_7, binop.eq_8, binop.eq_9, binop.eq_10, binop.eq_11, binop.eq_12, cmpop.eq_1, cmpop.eq_2, cmpop.eq_3, cmpop.eq_4, cmpop.eq_5, cmpop.eq_6, cmpop.eq_7, cmpop.eq_8, cmpop.eq_9, cmpop.eq_10, cmpop.eq_11, cmpop.eq_12, cmpop.eq_13, cmpop.eq_14, cmpop.eq_15, cmpop.eq_16, cmpop.eq_17, cmpop.eq_18, cmpop.eq_19, isScalar, Tg.put.eq_1, Tg.put.eq_2, Tg.puts.eq_1, Tg.puts.eq_2, Nat.zero_le, List.set_cons_zero, List.set_cons_succ, List.getElem?_cons_zero, List.getElem?_cons_succ, List.map_cons, List.map_nil, List.cons_append, List.nil_append, List.replicate_succ, List.replicate_zero, Option.map_some, Option.map_none, Option.bind_some, if_true, if_false, Bool.not_true, Bool.not_false, Nat.sub_self, List.length_cons, List.length_nil, Bool.false_eq_true, reduceCtorEq, and_self, and_true, true_and, decide_true, decide_false, Int.reduceLT, Int.reduceLE, Int.reduceEq, Nat.reduceLeDiff, Nat.reduceAdd, eqOk_ii, eqv_ii, eqOk_ss, eqv_ss, ltOk_ii, lt_ii, l1, l2, l3, l4, Nat.zero_add, eq_self,  Bool.and_self, Bool.and_true, Bool.true_and, List.append_nil])
      refine w_some rl sm (by omega) (by simp) (by simp) fun x a b hx => ?_
      have hx : ∃ gs : List Int, x = .tup (gs.map .int) ∧ Oct gs ∧ gs.length ≤ fs.length + 100 := by
        simp only [List.mem_cons, List.not_mem_nil, or_false] at hx
        rcases hx with rfl | rfl | rfl | rfl
        · exact ⟨f1, rfl, o1, by omega⟩
        · exact ⟨f2 ++ (f2 ++ f2), rfl, oct_app o2 (oct_app o2 o2), by rw [List.length_append, List.length_append]; omega⟩
        · exact ⟨cut fs (some (-9)) none, rfl, oct_cut ho _ _, by have := cut_len fs (some (-9)) none; omega⟩
        · exact ⟨ts, rfl, ht, by omega⟩
      obtain ⟨gs, rfl, hg, hgl⟩ := hx
      have hll : (fs.map D.int).length + (gs.map D.int).length ≤ line := by rw [List.length_map, List.length_map]; unfold line; omega
      unfold oD
      simp only [Int.cast_ofNat_Int, evSs_cons, evSs_none, nxt_nx, nxt_ret, retQ_ret, retQ_nx, W_ok, W_bind, bind_ok', lift_some, cup_view, vw_non, vw_int, vw_bl, vw_str, vw_tup, vw_lst, wipeE, evS.eq_1, evS.eq_2, evS.eq_3, evS.eq_4, evS.eq_5, evS.eq_6, evS.eq_7, evS.eq_8, evS.eq_9, evS.eq_10, evS.eq_11, evE.eq_1, evE.eq_2, evE.eq_3, evE.eq_4, evE.eq_5, evE.eq_6, evE.eq_7, evE.eq_8, evE.eq_9, evE.eq_10, evE.eq_11, evE.eq_12, evE.eq_13, evE.eq_14, evE.eq_15, evE.eq_16, evE.eq_17, evE.eq_18, evE.eq_19, evEs, evO, evC, builtin.eq_1, builtin.eq_2, builtin.eq_3, builtin.eq_4, builtin.eq_5, builtin.eq_6, builtin.eq_7, builtin.eq_8, builtin.eq_9, builtin.eq_10, builtin.eq_11, builtin.eq_12, builtin.eq_13, builtin.eq_14, builtin.eq_15, builtin.eq_16, builtin.eq_17, builtin.eq_18, builtin.eq_19, builtin.eq_20, builtin.eq_21, builtin.eq_22, builtin.eq_23, builtin.eq_24, builtin.eq_25, builtin.eq_26, builtin.eq_27, builtin.eq_28, builtin.eq_29, builtin.eq_30, builtin.eq_31, builtin.eq_32, builtin.eq_33, builtin.eq_34, builtin.eq_35, builtin.eq_36, builtin.eq_37, builtin.eq_38, builtin.eq_39, builtin.eq_40, builtin.eq_41, builtin.eq_42, builtin.eq_43, binop.eq_1, binop.eq_2, binop.eq_3, binop.eq_4, binop.eq_5, binop.eq_6, binop.eq_7, binop.eq_8, binop.eq_9, binop.eq_10, binop.eq_11, binop.eq_12, cmpop.eq_1, cmpop.eq_2, cmpop.eq_3, cmpop.eq_4, cmpop.eq_5, cmpop.eq_6, cmpop.eq_7, cmpop.eq_8, cmpop.eq_9, cmpop.eq_10, cmpop.eq_11, cmpop.eq_12, cmpop.eq_13, cmpop.eq_14, cmpop.eq_15, cmpop.eq_16, cmpop.eq_17, cmpop.eq_18, cmpop.eq_19, isScalar, Tg.put.eq_1, Tg.put.eq_2, Tg.puts.eq_1, Tg.puts.eq_2, Nat.zero_le, List.set_cons_zero, List.set_cons_succ, List.getElem?_cons_zero, List.getElem?_cons_succ, List.map_cons, List.map_nil, List.cons_append, List.nil_append, List.replicate_succ, List.replicate_zero, Option.map_some, Option.map_none, Option.bind_some, if_true, if_false, Bool.not_true, Bool.not_false, Nat.sub_self, List.length_cons, List.length_nil, Bool.false_eq_true, reduceCtorEq, and_self, and_true, true_and, decide_true, decide_false, Int.reduceLT, Int.reduceLE, Int.reduceEq, Nat.reduceLeDiff, Nat.reduceAdd, eqOk_ii, eqv_ii, eqOk_ss, eqv_ss, ltOk_ii, lt_ii, l1, l2, l3, l4, Nat.zero_add, eq_self,  Bool.and_self, Bool.and_true, Bool.true_and, List.append_nil, hll]
      refine ⟨fs ++ gs, a, b, some (.int (i : Nat)), by rw [List.map_append], oct_app ho hg, ?_, rfl⟩
      rw [List.length_append, List.length_append, List.length_singleton, Nat.pow_succ]
      omega
  · obtain ⟨fs, a, b, y, rfl, ho, hf, rfl⟩ := h
    have hp2 : 2 ^ (List.range t.toNat).length ≤ 2 ^ 3 := Nat.pow_le_pow_right (by omega) (by rw [List.length_range]; omega)
    have hmm : mulOk 4 m = true := mul_smallL (by decide)
    simp only [Int.cast_ofNat_Int, evSs_cons, evSs_none, nxt_nx, nxt_ret, retQ_ret, retQ_nx, W_ok, W_bind, bind_ok', lift_some, cup_view, vw_non, vw_int, vw_bl, vw_str, vw_tup, vw_lst, wipeE, evS.eq_1, evS.eq_2, evS.eq_3, evS.eq_4, evS.eq_5, evS.eq_6, evS.eq_7, evS.eq_8, evS.eq_9, evS.eq_10, evS.eq_11, evE.eq_1, evE.eq_2, evE.eq_3, evE.eq_4, evE.eq_5, evE.eq_6, evE.eq_7, evE.eq_8, evE.eq_9, evE.eq_10, evE.eq_11, evE.eq_12, evE.eq_13, evE.eq_14, evE.eq_15, evE.eq_16, evE.eq_17, evE.eq_18, evE.eq_19, evEs, evO, evC, builtin.eq_1, builtin.eq_2, builtin.eq_3, builtin.eq_4, builtin.eq_5, builtin.eq_6, builtin.eq_7, builtin.eq_8, builtin.eq_9, builtin.eq_10, builtin.eq_11, builtin.eq_12, builtin.eq_13, builtin.eq_14, builtin.eq_15, builtin.eq_16, builtin.eq_17, builtin.eq_18, builtin.eq_19, builtin.eq_20, builtin.eq_21, builtin.eq_22, builtin.eq_23, builtin.eq_24, builtin.eq_25, builtin.eq_26, builtin.eq_27, builtin.eq_28, builtin.eq_29, builtin.eq_30, builtin.eq_31, builtin.eq_32, builtin.eq_33, builtin.eq_34, builtin.eq_35, builtin.eq_36, builtin.eq_37, builtin.eq_38, builtin.eq_39, builtin.eq_40, builtin.eq_41, builtin.eq_42, builtin.eq_43, binop.eq_1, binop.eq_2, binop.eq_3, binop.eq_4, binop.eq_5, binop.eq_6, binop.eq_7, binop.eq_8, binop.eq_9, binop.eq_10, binop.eq_11, binop.eq_12, cmpop.eq_1, cmpop.eq_2, cmpop.eq_3, cmpop.eq_4, cmpop.eq_5, cmpop.eq_6, cmpop.eq_7, cmpop.eq_8, cmpop.eq_9, cmpop.eq_10, cmpop.eq_11, cmpop.eq_12, cmpop.eq_13, cmpop.eq_14, cmpop.eq_15, cmpop.eq_16, cmpop.eq_17, cmpop.eq_18, cmpop.eq_19, isScalar, Tg.put.eq_1, Tg.put.eq_2, Tg.puts.eq_1, Tg.puts.eq_2, Nat.zero_le, List.set_cons_zero, List.set_cons_succ, List.getElem?_cons_zero, List.getElem?_cons_succ, List.map_cons, List.map_nil, List.cons_append, List.nil_append, List.replicate_succ, List.replicate_zero, Option.map_some, Option.map_none, Option.bind_some, if_true, if_false, Bool.not_true, Bool.not_false, Nat.sub_self, List.length_cons, List.length_nil, Bool.false_eq_true, reduceCtorEq, and_self, and_true, true_and, decide_true, decide_false, Int.reduceLT, Int.reduceLE, Int.reduceEq, Nat.reduceLeDiff, Nat.reduceAdd, eqOk_ii, eqv_ii, eqOk_ss, eqv_ss, ltOk_ii, lt_ii, l1, l2, l3, l4, Nat.zero_add, eq_self,  Bool.and_self, Bool.and_true, Bool.true_and, List.append_nil, vw_oD, slc_cut, hmm]
    exact go _ _ _ (oct_cut ho _ _) (by have := cut_len fs none (some (4 * m)); omega)
end
theorem slc_last (zs : List Nat) : slice (.lst (nD zs)) none (some (-1)) = some (.lst (nD zs.dropLast)) := by
  unfold nD
  show some (D.lst (cut _ none (some (-1)))) = _
  rw [cut_map]
  congr 3
  unfold cut sIx
  rw [List.dropLast_eq_take, List.drop_zero]
  congr 1
  dsimp only
  rw [if_pos (by omega)]
  omega
theorem deep_int {n : Nat} (i : Int) : Deep n (.int i) := .flat rfl
theorem deep_nD (ns : List Nat) (h : ns.length ≤ 1000000) {n : Nat} : Deep (n + 1) (.tup (nD ns)) := .tup (by rw [nD_len]; exact h) fun x hx => by
  obtain ⟨y, _, rfl⟩ := List.mem_map.mp hx
  exact deep_int _
theorem deep_oD (os : List Int) (h : os.length ≤ 1000000) {n : Nat} : Deep (n + 1) (oD os) := .tup (by rw [List.length_map]; exact h) fun x hx => by
  obtain ⟨y, _, rfl⟩ := List.mem_map.mp hx
  exact deep_int _
theorem chs_len (os : List Int) : ∀ (b : Nat) (cs : List Nat), (chs os b cs).length = cs.length
  | b, [] => rfl
  | b, c :: cs => by rw [chs, List.length_cons, List.length_cons, chs_len os c cs]
theorem le_line {n : Nat} (h : n ≤ 1000000) : n ≤ line := by unfold line; omega
section
variable {k : Nat}
theorem w_right (hk : 6 ≤ k) {m : Int} (m0 : 0 ≤ m) (m1 : m ≤ 60) {a b : Int} : W (callP prog k "_law_right" [.ref 0, .int m] (Cup a b [])) fun d S => d = .bl true ∧ ∃ a b, S = Cup a b [] := by
  refine W_call (by omega) rfl rfl fun j hj => ?_
  simp only [f__law_right, Int.cast_ofNat_Int, evSs_cons, evSs_none, nxt_nx, nxt_ret, retQ_ret, retQ_nx, W_ok, W_bind, bind_ok', lift_some, cup_view, vw_non, vw_int, vw_bl, vw_str, vw_tup, vw_lst, wipeE, evS.eq_1, evS.eq_2, evS.eq_3, evS.eq_4, evS.eq_5, evS.eq_6, evS.eq_7, evS.eq_8, evS.eq_9, evS.eq_10, evS.eq_11, evE.eq_1, evE.eq_2, evE.eq_3, evE.eq_4, evE.eq_5, evE.eq_6, evE.eq_7, evE.eq_8, evE.eq_9, evE.eq_10, evE.eq_11, evE.eq_12, evE.eq_13, evE.eq_14, evE.eq_15, evE.eq_16, evE.eq_17, evE.eq_18, evE.eq_19, evEs, evO, evC, builtin.eq_1, builtin.eq_2, builtin.eq_3, builtin.eq_4, builtin.eq_5, builtin.eq_6, builtin.eq_7, builtin.eq_8, builtin.eq_9, builtin.eq_10, builtin.eq_11, builtin.eq_12, builtin.eq_13, builtin.eq_14, builtin.eq_15, builtin.eq_16, builtin.eq_17, builtin.eq_18, builtin.eq_19, builtin.eq_20, builtin.eq_21, builtin.eq_22, builtin.eq_23, builtin.eq_24, builtin.eq_25, builtin.eq_26, builtin.eq_27, builtin.eq_28, builtin.eq_29, builtin.eq_30, builtin.eq_31, builtin.eq_32, builtin.eq_33, builtin.eq_34, builtin.eq_35, builtin.eq_36, builtin.eq_37, builtin.eq_38, builtin.eq_39, builtin.eq_40, builtin.eq_41, builtin.eq_42, builtin.eq_43, binop.eq_1, binop.eq_2, binop.eq_3, binop.eq_4, binop.eq_5, binop.eq_6, binop.eq_7, binop.eq_8, binop.eq_9, binop.eq_10, binop.eq_11, binop.eq_12, cmpop.eq_1, cmpop.eq_2, cmpop.eq_3, cmpop.eq_4, cmpop.eq_5, cmpop.eq_6, cmpop.eq_7, cmpop.eq_8, cmpop.eq_9, cmpop.eq_10, cmpop.eq_11, cmpop.eq_12, cmpop.eq_13, cmpop.eq_14, cmpop.eq_15, cmpop.eq_16, cmpop.eq_17, cmpop.eq_18, cmpop.eq_19, isScalar, Tg.put.eq_1, Tg.put.eq_2, Tg.puts.eq_1, Tg.puts.eq_2, Nat.zero_le, List.set_cons_zero, List.set_cons_succ, List.getElem?_cons_zero, List.getElem?_cons_succ, List.map_cons, List.map_nil, List.cons_append, List.nil_append, List.replicate_succ, List.replicate_zero, Option.map_some, Option.map_none, Option.bind_some, if_true, if_false, Bool.not_true, Bool.not_false, Nat.sub_self, List.length_cons, List.length_nil, Bool.false_eq_true, reduceCtorEq, and_self, and_true, true_and, decide_true, decide_false, Int.reduceLT, Int.reduceLE, Int.reduceEq, Nat.reduceLeDiff, Nat.reduceAdd, eqOk_ii, eqv_ii, eqOk_ss, eqv_ss, ltOk_ii, lt_ii, l1, l2, l3, l4, Nat.zero_add, eq_self,  Bool.and_self, Bool.and_true, Bool.true_and, List.append_nil]
  refine w_rule (by omega) fun r a b hr => ?_
  (try simp only [Int.cast_ofNat_Int, evSs_cons, evSs_none, nxt_nx, nxt_ret, retQ_ret, retQ_nx, W_ok, W_bind, bind_ok', lift_some, cup_view, vw_non, vw_int, vw_bl, vw_str, vw_tup, vw_lst, wipeE, evS.eq_1, evS.eq_2, evS.eq_3, evS.eq_4, evS.eq_5, evS.eq_6, evS.eq_7, evS.eq_8, evS.eq_9, evS.eq_10, evS.eq_11, evE.eq_1, evE.eq_2, evE.eq_3, evE.eq_4, evE.eq_5, evE.eq_6, evE.eq_7, evE.eq_8, evE.eq_9, evE.eq_10, evE.eq_11, evE.eq_12, evE.eq_13, evE.eq_14, evE.eq_15, evE.eq_16, evE.eq_17, evE.eq_18, evE.eq_19, evEs, evO, evC, builtin.eq_1, builtin.eq_2, builtin.eq_3, builtin.eq_4, builtin.eq_5, builtin.eq_6, builtin.eq_7, builtin.eq_8, builtin.eq_9, builtin.eq_10, builtin.eq_11, builtin.eq_12, builtin.eq_13, builtin.eq_14, builtin.eq_15, builtin.eq_16, builtin.eq_17, builtin.eq_18, builtin.eq_19, builtin.eq_20, builtin.eq_21, builtin.eq_22, builtin.eq_23, builtin.eq_24, builtin.eq_25, builtin.eq_26, builtin.eq_27, builtin.eq_28, builtin.eq_29, builtin.eq_30, builtin.eq_31, builtin.eq_32, builtin.eq_33, builtin.eq_34, builtin.eq_35, builtin.eq_36, builtin.eq_37, builtin.eq_38, builtin.eq_39, builtin.eq_40, builtin.eq_41, builtin.eq_42, builtin.eq_43, binop.eq_1, binop.eq_2, binop.eq_3, binop.eq_4, binop.eq_5, binop.eq_6, binop.eq_7, binop.eq_8, binop.eq_9, binop.eq_10, binop.eq_11, binop.eq_12, cmpop.eq_1, cmpop.eq_2, cmpop.eq_3, cmpop.eq_4, cmpop.eq_5, cmpop.eq_6, cmpop.eq_7, cmpop.eq_8, cmpop.eq_9, cmpop.eq_10, cmpop.eq_11, cmpop.eq_12, cmpop.eq_13, cmpop.eq_14, cmpop.eq_15, cmpop.eq_16, cmpop.eq_17, cmpop.eq_18, cmpop.eq_19, isScalar, Tg.put.eq_1, Tg.put.eq_2, Tg.puts.eq_1, Tg.puts.eq_2, Nat.zero_le, List.set_cons_zero, List.set_cons_succ, List.getElem?_cons_zero, List.getElem?_cons_succ, List.map_cons, List.map_nil, List.cons_append, List.nil_append, List.replicate_succ, List.replicate_zero, Option.map_some, Option.map_none, Option.bind_some, if_true, if_false, Bool.not_true, Bool.not_false, Nat.sub_self, List.length_cons, List.length_nil, Bool.false_eq_true, reduceCtorEq, and_self, and_true, true_and, decide_true, decide_false, Int.reduceLT, Int.reduceLE, Int.reduceEq, Nat.reduceLeDiff, Nat.reduceAdd, eqOk_ii, eqv_ii, eqOk_ss, eqv_ss, ltOk_ii, lt_ii, l1, l2, l3, l4, Nat.zero_add, eq_self,  Bool.and_self, Bool.and_true, Bool.true_and, List.append_nil])
  refine w_octets (by omega) m0 m1 fun os a b ho hl => ?_
  have cle := cuts_len (os := os) hr
  have mle := mks_len os r.w r.d os.length
  have hfl : (chsL os r).flatten = os := by
    have := chs_flat (L := mks os r.w r.d os.length ++ [os.length]) (n := os.length) (os := os) hr.l1 hr.m1 rfl os.length 0 (by omega)
    rw [List.drop_zero] at this
    exact this
  have hsz := chs_sizes (L := mks os r.w r.d os.length ++ [os.length]) (n := os.length) (os := os) hr.l1 hr.m1 rfl os.length 0 (by omega)
  have hch : (chsL os r).length ≤ os.length := by unfold chsL; rw [chs_len]; exact cle
  have e1 := r_is_rule (k := j) (S := Cup a b []) (by omega) hr
  have e2 := r_marks (k := j) (S := Cup a b []) (by omega) hr ho hl
  have e3 := r_cuts (k := j) (S := Cup a b []) (by omega) hr ho hl
  have e4 := r_chunks (k := j) (S := Cup a b []) (by omega) hr ho hl
  have e5 := r_law_marks (k := j) (S := Cup a b []) (by omega) hr hl
  have e6 := r_law_cuts (k := j) (S := Cup a b []) (by omega) hr hl
  have e7 := r_law_chunks (k := j) (S := Cup a b []) (by omega) hr hl
  have hd : Deep 4 (.tup [.bl true, .tup (nD (mks os r.w r.d os.length)), .tup (nD (cutsL os r)), .tup ((chsL os r).map oD)]) := by
    refine .tup (by simp) fun x hx => ?_
    simp only [List.mem_cons, List.not_mem_nil, or_false] at hx
    rcases hx with rfl | rfl | rfl | rfl
    · exact .flat rfl
    · exact deep_nD _ (by omega)
    · exact deep_nD _ (by omega)
    · refine .tup (by rw [List.length_map]; omega) fun y hy => ?_
      obtain ⟨c, hc, rfl⟩ := List.mem_map.mp hy
      refine deep_oD _ ?_
      have := hsz.1 c hc
      have := hr.m2
      omega
  have es := same_deep (P := prog) rfl (S := Cup a b []) (k := j) (show 4 + 1 ≤ j by omega) hd
  simp only [Int.cast_ofNat_Int, evSs_cons, evSs_none, nxt_nx, nxt_ret, retQ_ret, retQ_nx, W_ok, W_bind, bind_ok', lift_some, cup_view, vw_non, vw_int, vw_bl, vw_str, vw_tup, vw_lst, wipeE, evS.eq_1, evS.eq_2, evS.eq_3, evS.eq_4, evS.eq_5, evS.eq_6, evS.eq_7, evS.eq_8, evS.eq_9, evS.eq_10, evS.eq_11, evE.eq_1, evE.eq_2, evE.eq_3, evE.eq_4, evE.eq_5, evE.eq_6, evE.eq_7, evE.eq_8, evE.eq_9, evE.eq_10, evE.eq_11, evE.eq_12, evE.eq_13, evE.eq_14, evE.eq_15, evE.eq_16, evE.eq_17, evE.eq_18, evE.eq_19, evEs, evO, evC, builtin.eq_1, builtin.eq_2, builtin.eq_3, builtin.eq_4, builtin.eq_5, builtin.eq_6, builtin.eq_7, builtin.eq_8, builtin.eq_9, builtin.eq_10, builtin.eq_11, builtin.eq_12, builtin.eq_13, builtin.eq_14, builtin.eq_15, builtin.eq_16, builtin.eq_17, builtin.eq_18, builtin.eq_19, builtin.eq_20, builtin.eq_21, builtin.eq_22, builtin.eq_23, builtin.eq_24, builtin.eq_25, builtin.eq_26, builtin.eq_27, builtin.eq_28, builtin.eq_29, builtin.eq_30, builtin.eq_31, builtin.eq_32, builtin.eq_33, builtin.eq_34, builtin.eq_35, builtin.eq_36, builtin.eq_37, builtin.eq_38, builtin.eq_39, builtin.eq_40, builtin.eq_41, builtin.eq_42, builtin.eq_43, binop.eq_1, binop.eq_2, binop.eq_3, binop.eq_4, binop.eq_5, binop.eq_6, binop.eq_7, binop.eq_8, binop.eq_9, binop.eq_10, binop.eq_11, binop.eq_12, cmpop.eq_1, cmpop.eq_2, cmpop.eq_3, cmpop.eq_4, cmpop.eq_5, cmpop.eq_6, cmpop.eq_7, cmpop.eq_8, cmpop.eq_9, cmpop.eq_10, cmpop.eq_11, cmpop.eq_12, cmpop.eq_13, cmpop.eq_14, cmpop.eq_15, cmpop.eq_16, cmpop.eq_17, cmpop.eq_18, cmpop.eq_19, isScalar, Tg.put.eq_1, Tg.put.eq_2, Tg.puts.eq_1, Tg.puts.eq_2, Nat.zero_le, List.set_cons_zero, List.set_cons_succ, List.getElem?_cons_zero, List.getElem?_cons_succ, List.map_cons, List.map_nil, List.cons_append, List.nil_append, List.replicate_succ, List.replicate_zero, Option.map_some, Option.map_none, Option.bind_some, if_true, if_false, Bool.not_true, Bool.not_false, Nat.sub_self, List.length_cons, List.length_nil, Bool.false_eq_true, reduceCtorEq, and_self, and_true, true_and, decide_true, decide_false, Int.reduceLT, Int.reduceLE, Int.reduceEq, Nat.reduceLeDiff, Nat.reduceAdd, eqOk_ii, eqv_ii, eqOk_ss, eqv_ss, ltOk_ii, lt_ii, l1, l2, l3, l4, Nat.zero_add, eq_self,  Bool.and_self, Bool.and_true, Bool.true_and, List.append_nil, e1, e2, e3, e4, e5, e6, e7, es]
  refine W_for oD ?_
  simp only [Int.cast_ofNat_Int, evSs_cons, evSs_none, nxt_nx, nxt_ret, retQ_ret, retQ_nx, W_ok, W_bind, bind_ok', lift_some, cup_view, vw_non, vw_int, vw_bl, vw_str, vw_tup, vw_lst, wipeE, evS.eq_1, evS.eq_2, evS.eq_3, evS.eq_4, evS.eq_5, evS.eq_6, evS.eq_7, evS.eq_8, evS.eq_9, evS.eq_10, evS.eq_11, evE.eq_1, evE.eq_2, evE.eq_3, evE.eq_4, evE.eq_5, evE.eq_6, evE.eq_7, evE.eq_8, evE.eq_9, evE.eq_10, evE.eq_11, evE.eq_12, evE.eq_13, evE.eq_14, evE.eq_15, evE.eq_16, evE.eq_17, evE.eq_18, evE.eq_19, evEs, evO, evC, builtin.eq_1, builtin.eq_2, builtin.eq_3, builtin.eq_4, builtin.eq_5, builtin.eq_6, builtin.eq_7, builtin.eq_8, builtin.eq_9, builtin.eq_10, builtin.eq_11, builtin.eq_12, builtin.eq_13, builtin.eq_14, builtin.eq_15, builtin.eq_16, builtin.eq_17, builtin.eq_18, builtin.eq_19, builtin.eq_20, builtin.eq_21, builtin.eq_22, builtin.eq_23, builtin.eq_24, builtin.eq_25, builtin.eq_26, builtin.eq_27, builtin.eq_28, builtin.eq_29, builtin.eq_30, builtin.eq_31, builtin.eq_32, builtin.eq_33, builtin.eq_34, builtin.eq_35, builtin.eq_36, builtin.eq_37, builtin.eq_38, builtin.eq_39, builtin.eq_40, builtin.eq_41, builtin.eq_42, builtin.eq_43, binop.eq_1, binop.eq_2, binop.eq_3, binop.eq_4, binop.eq_5, binop.eq_6, binop.eq_7, binop.eq_8, binop.eq_9, binop.eq_10, binop.eq_11, binop.eq_12, cmpop.eq_1, cmpop.eq_2, cmpop.eq_3, cmpop.eq_4, cmpop.eq_5, cmpop.eq_6, cmpop.eq_7, cmpop.eq_8, cmpop.eq_9, cmpop.eq_10, cmpop.eq_11, cmpop.eq_12, cmpop.eq_13, cmpop.eq_14, cmpop.eq_15, cmpop.eq_16, cmpop.eq_17, cmpop.eq_18, cmpop.eq_19, isScalar, Tg.put.eq_1, Tg.put.eq_2, Tg.puts.eq_1, Tg.puts.eq_2, Nat.zero_le, List.set_cons_zero, List.set_cons_succ, List.getElem?_cons_zero, List.getElem?_cons_succ, List.map_cons, List.map_nil, List.cons_append, List.nil_append, List.replicate_succ, List.replicate_zero, Option.map_some, Option.map_none, Option.bind_some, if_true, if_false, Bool.not_true, Bool.not_false, Nat.sub_self, List.length_cons, List.length_nil, Bool.false_eq_true, reduceCtorEq, and_self, and_true, true_and, decide_true, decide_false, Int.reduceLT, Int.reduceLE, Int.reduceEq, Nat.reduceLeDiff, Nat.reduceAdd, eqOk_ii, eqv_ii, eqOk_ss, eqv_ss, ltOk_ii, lt_ii, l1, l2, l3, l4, Nat.zero_add, eq_self,  Bool.and_self, Bool.and_true, Bool.true_and, List.append_nil, ix43]
  change (∀ c ∈ chsL os r, 1 ≤ c.length ∧ c.length ≤ r.m) ∧ (∀ c ∈ (chsL os r).dropLast, r.l ≤ c.length) at hsz
  generalize hcs : chsL os r = cs at *
  generalize D.tup (nD (mks os r.w r.d os.length)) = y1
  generalize D.tup (nD (cutsL os r)) = y2
  refine ⟨cs, fun pre en T => T = Cup a b [] ∧ ∃ y4, en = [some (.ref 0), some (.int m), some (.tup [.bl true, y1, y2, .tup (cs.map oD)]), some (oD pre.flatten), y4, none, some r.D, some (oD os), none], rfl, rfl, ⟨rfl, none, rfl⟩, (fun pre c suf en T e h => ?_), fun en T h => ?_⟩
  · obtain ⟨rfl, y4, rfl⟩ := h
    have hll : (pre.flatten.map D.int).length + (c.map D.int).length ≤ line := by
      rw [List.length_map, List.length_map]
      have := congrArg List.length hfl
      rw [e, List.flatten_append, List.flatten_cons, List.length_append, List.length_append] at this
      refine le_line ?_
      omega
    unfold oD
    simp only [bodyF, Int.cast_ofNat_Int, evSs_cons, evSs_none, nxt_nx, nxt_ret, retQ_ret, retQ_nx, W_ok, W_bind, bind_ok', lift_some, cup_view, vw_non, vw_int, vw_bl, vw_str, vw_tup, vw_lst, wipeE, evS.eq_1, evS.eq_2, evS.eq_3, evS.eq_4, evS.eq_5, evS.eq_6, evS.eq_7, evS.eq_8, evS.eq_9, evS.eq_10, evS.eq_11, evE.eq_1, evE.eq_2, evE.eq_3, evE.eq_4, evE.eq_5, evE.eq_6, evE.eq_7, evE.eq_8, evE.eq_9, evE.eq_10, evE.eq_11, evE.eq_12, evE.eq_13, evE.eq_14, evE.eq_15, evE.eq_16, evE.eq_17, evE.eq_18, evE.eq_19, evEs, evO, evC, builtin.eq_1, builtin.eq_2, builtin.eq_3, builtin.eq_4, builtin.eq_5, builtin.eq_6, builtin.eq_7, builtin.eq_8, builtin.eq_9, builtin.eq_10, builtin.eq_11, builtin.eq_12, builtin.eq_13, builtin.eq_14, builtin.eq_15, builtin.eq_16, builtin.eq_17, builtin.eq_18, builtin.eq_19, builtin.eq_20, builtin.eq_21, builtin.eq_22, builtin.eq_23, builtin.eq_24, builtin.eq_25, builtin.eq_26, builtin.eq_27, builtin.eq_28, builtin.eq_29, builtin.eq_30, builtin.eq_31, builtin.eq_32, builtin.eq_33, builtin.eq_34, builtin.eq_35, builtin.eq_36, builtin.eq_37, builtin.eq_38, builtin.eq_39, builtin.eq_40, builtin.eq_41, builtin.eq_42, builtin.eq_43, binop.eq_1, binop.eq_2, binop.eq_3, binop.eq_4, binop.eq_5, binop.eq_6, binop.eq_7, binop.eq_8, binop.eq_9, binop.eq_10, binop.eq_11, binop.eq_12, cmpop.eq_1, cmpop.eq_2, cmpop.eq_3, cmpop.eq_4, cmpop.eq_5, cmpop.eq_6, cmpop.eq_7, cmpop.eq_8, cmpop.eq_9, cmpop.eq_10, cmpop.eq_11, cmpop.eq_12, cmpop.eq_13, cmpop.eq_14, cmpop.eq_15, cmpop.eq_16, cmpop.eq_17, cmpop.eq_18, cmpop.eq_19, isScalar, Tg.put.eq_1, Tg.put.eq_2, Tg.puts.eq_1, Tg.puts.eq_2, Nat.zero_le, List.set_cons_zero, List.set_cons_succ, List.getElem?_cons_zero, List.getElem?_cons_succ, List.map_cons, List.map_nil, List.cons_append, List.nil_append, List.replicate_succ, List.replicate_zero, Option.map_some, Option.map_none, Option.bind_some, if_true, if_false, Bool.not_true, Bool.not_false, Nat.sub_self, List.length_cons, List.length_nil, Bool.false_eq_true, reduceCtorEq, and_self, and_true, true_and, decide_true, decide_false, Int.reduceLT, Int.reduceLE, Int.reduceEq, Nat.reduceLeDiff, Nat.reduceAdd, eqOk_ii, eqv_ii, eqOk_ss, eqv_ss, ltOk_ii, lt_ii, l1, l2, l3, l4, Nat.zero_add, eq_self,  Bool.and_self, Bool.and_true, Bool.true_and, List.append_nil, hll]
    exact ⟨some (oD c), by rw [List.flatten_append, List.map_append]; simp [oD]⟩
  · obtain ⟨rfl, y4, rfl⟩ := h
    rw [hfl]
    have hcomp : evE (callP prog j) (.comp [4] (.nm 4) .ex [(.idx (.loc 2) (.cst (.int 3)))] none (.bi .len [(.loc 4)])) [some (.ref 0), some (.int m), some (.tup [.bl true, y1, y2, .tup (cs.map oD)]), some (oD os), y4, none, some r.D, some (oD os), none] (Cup a b []) = .ok (.lst (nD (cs.map List.length))) (Cup a b []) := by
      have := comp_map (cf := callP prog j) (vs := [4]) (t := .nm 4) (kk := .ex) (es := [(.idx (.loc 2) (.cst (.int 3)))]) (c := none) (e := .bi .len [(.loc 4)]) (en := [some (.ref 0), some (.int m), some (.tup [.bl true, y1, y2, .tup (cs.map oD)]), some (oD os), y4, none, some r.D, some (oD os), none]) (S := Cup a b []) oD cs (fun c => D.int (c.length : Nat)) (ds := [.tup (cs.map oD)]) (by simp only [Int.cast_ofNat_Int, evSs_cons, evSs_none, nxt_nx, nxt_ret, retQ_ret, retQ_nx, W_ok, W_bind, bind_ok', lift_some, cup_view, vw_non, vw_int, vw_bl, vw_str, vw_tup, vw_lst, wipeE, evS.eq_1, evS.eq_2, evS.eq_3, evS.eq_4, evS.eq_5, evS.eq_6, evS.eq_7, evS.eq_8, evS.eq_9, evS.eq_10, evS.eq_11, evE.eq_1, evE.eq_2, evE.eq_3, evE.eq_4, evE.eq_5, evE.eq_6, evE.eq_7, evE.eq_8, evE.eq_9, evE.eq_10, evE.eq_11, evE.eq_12, evE.eq_13, evE.eq_14, evE.eq_15, evE.eq_16, evE.eq_17, evE.eq_18, evE.eq_19, evEs, evO, evC, builtin.eq_1, builtin.eq_2, builtin.eq_3, builtin.eq_4, builtin.eq_5, builtin.eq_6, builtin.eq_7, builtin.eq_8, builtin.eq_9, builtin.eq_10, builtin.eq_11, builtin.eq_12, builtin.eq_13, builtin.eq_14, builtin.eq_15, builtin.eq_16, builtin.eq_17, builtin.eq_18, builtin.eq_19, builtin.eq_20, builtin.eq_21, builtin.eq_22, builtin.eq_23, builtin.eq_24, builtin.eq_25, builtin.eq_26, builtin.eq_27, builtin.eq_28, builtin.eq_29, builtin.eq_30, builtin.eq_31, builtin.eq_32, builtin.eq_33, builtin.eq_34, builtin.eq_35, builtin.eq_36, builtin.eq_37, builtin.eq_38, builtin.eq_39, builtin.eq_40, builtin.eq_41, builtin.eq_42, builtin.eq_43, binop.eq_1, binop.eq_2, binop.eq_3, binop.eq_4, binop.eq_5, binop.eq_6, binop.eq_7, binop.eq_8, binop.eq_9, binop.eq_10, binop.eq_11, binop.eq_12, cmpop.eq_1, cmpop.eq_2, cmpop.eq_3, cmpop.eq_4, cmpop.eq_5, cmpop.eq_6, cmpop.eq_7, cmpop.eq_8, cmpop.eq_9, cmpop.eq_10, cmpop.eq_11, cmpop.eq_12, cmpop.eq_13, cmpop.eq_14, cmpop.eq_15, cmpop.eq_16, cmpop.eq_17, cmpop.eq_18, cmpop.eq_19, isScalar, Tg.put.eq_1, Tg.put.eq_2, Tg.puts.eq_1, Tg.puts.eq_2, Nat.zero_le, List.set_cons_zero, List.set_cons_succ, List.getElem?_cons_zero, List.getElem?_cons_succ, List.map_cons, List.map_nil, List.cons_append, List.nil_append, List.replicate_succ, List.replicate_zero, Option.map_some, Option.map_none, Option.bind_some, if_true, if_false, Bool.not_true, Bool.not_false, Nat.sub_self, List.length_cons, List.length_nil, Bool.false_eq_true, reduceCtorEq, and_self, and_true, true_and, decide_true, decide_false, Int.reduceLT, Int.reduceLE, Int.reduceEq, Nat.reduceLeDiff, Nat.reduceAdd, eqOk_ii, eqv_ii, eqOk_ss, eqv_ss, ltOk_ii, lt_ii, l1, l2, l3, l4, Nat.zero_add, eq_self,  Bool.and_self, Bool.and_true, Bool.true_and, List.append_nil, ix43]) rfl rfl (le_line (by omega)) fun c hc => by
        unfold oD
        simp only [bodyC, Int.cast_ofNat_Int, evSs_cons, evSs_none, nxt_nx, nxt_ret, retQ_ret, retQ_nx, W_ok, W_bind, bind_ok', lift_some, cup_view, vw_non, vw_int, vw_bl, vw_str, vw_tup, vw_lst, wipeE, evS.eq_1, evS.eq_2, evS.eq_3, evS.eq_4, evS.eq_5, evS.eq_6, evS.eq_7, evS.eq_8, evS.eq_9, evS.eq_10, evS.eq_11, evE.eq_1, evE.eq_2, evE.eq_3, evE.eq_4, evE.eq_5, evE.eq_6, evE.eq_7, evE.eq_8, evE.eq_9, evE.eq_10, evE.eq_11, evE.eq_12, evE.eq_13, evE.eq_14, evE.eq_15, evE.eq_16, evE.eq_17, evE.eq_18, evE.eq_19, evEs, evO, evC, builtin.eq_1, builtin.eq_2, builtin.eq_3, builtin.eq_4, builtin.eq_5, builtin.eq_6, builtin.eq_7, builtin.eq_8, builtin.eq_9, builtin.eq_10, builtin.eq_11, builtin.eq_12, builtin.eq_13, builtin.eq_14, builtin.eq_15, builtin.eq_16, builtin.eq_17, builtin.eq_18, builtin.eq_19, builtin.eq_20, builtin.eq_21, builtin.eq_22, builtin.eq_23, builtin.eq_24, builtin.eq_25, builtin.eq_26, builtin.eq_27, builtin.eq_28, builtin.eq_29, builtin.eq_30, builtin.eq_31, builtin.eq_32, builtin.eq_33, builtin.eq_34, builtin.eq_35, builtin.eq_36, builtin.eq_37, builtin.eq_38, builtin.eq_39, builtin.eq_40, builtin.eq_41, builtin.eq_42, builtin.eq_43, binop.eq_1, binop.eq_2, binop.eq_3, binop.eq_4, binop.eq_5, binop.eq_6, binop.eq_7, binop.eq_8, binop.eq_9, binop.eq_10, binop.eq_11, binop.eq_12, cmpop.eq_1, cmpop.eq_2, cmpop.eq_3, cmpop.eq_4, cmpop.eq_5, cmpop.eq_6, cmpop.eq_7, cmpop.eq_8, cmpop.eq_9, cmpop.eq_10, cmpop.eq_11, cmpop.eq_12, cmpop.eq_13, cmpop.eq_14, cmpop.eq_15, cmpop.eq_16, cmpop.eq_17, cmpop.eq_18, cmpop.eq_19, isScalar, Tg.put.eq_1, Tg.put.eq_2, Tg.puts.eq_1, Tg.puts.eq_2, Nat.zero_le, List.set_cons_zero, List.set_cons_succ, List.getElem?_cons_zero, List.getElem?_cons_succ, List.map_cons, List.map_nil, List.cons_append, List.nil_append, List.replicate_succ, List.replicate_zero, Option.map_some, Option.map_none, Option.bind_some, if_true, if_false, Bool.not_true, Bool.not_false, Nat.sub_self, List.length_cons, List.length_nil, Bool.false_eq_true, reduceCtorEq, and_self, and_true, true_and, decide_true, decide_false, Int.reduceLT, Int.reduceLE, Int.reduceEq, Nat.reduceLeDiff, Nat.reduceAdd, eqOk_ii, eqv_ii, eqOk_ss, eqv_ss, ltOk_ii, lt_ii, l1, l2, l3, l4, Nat.zero_add, eq_self,  Bool.and_self, Bool.and_true, Bool.true_and, List.append_nil, List.length_map]
      rw [this]
      unfold nD
      rw [List.map_map]
      rfl
    have hz1 : ∀ z ∈ (cs.map List.length), 1 ≤ z ∧ z ≤ r.m := fun z hz => by
      obtain ⟨c, hc, rfl⟩ := List.mem_map.mp hz
      exact hsz.1 c hc
    have hz2 : ∀ z ∈ (cs.map List.length).dropLast, r.l ≤ z := fun z hz => by
      rw [← List.map_dropLast] at hz
      obtain ⟨c, hc, rfl⟩ := List.mem_map.mp hz
      exact hsz.2 c hc
    have hzl : (cs.map List.length).length ≤ 1000000 := by rw [List.length_map]; omega
    simp only [Int.cast_ofNat_Int, evSs_cons, evSs_none, nxt_nx, nxt_ret, retQ_ret, retQ_nx, W_ok, W_bind, bind_ok', lift_some, cup_view, vw_non, vw_int, vw_bl, vw_str, vw_tup, vw_lst, wipeE, evS.eq_1, evS.eq_2, evS.eq_3, evS.eq_4, evS.eq_5, evS.eq_6, evS.eq_7, evS.eq_8, evS.eq_9, evS.eq_10, evS.eq_11, evE.eq_1, evE.eq_2, evE.eq_3, evE.eq_4, evE.eq_5, evE.eq_6, evE.eq_7, evE.eq_8, evE.eq_9, evE.eq_10, evE.eq_11, evE.eq_12, evE.eq_13, evE.eq_14, evE.eq_15, evE.eq_16, evE.eq_17, evE.eq_18, evE.eq_19, evEs, evO, evC, builtin.eq_1, builtin.eq_2, builtin.eq_3, builtin.eq_4, builtin.eq_5, builtin.eq_6, builtin.eq_7, builtin.eq_8, builtin.eq_9, builtin.eq_10, builtin.eq_11, builtin.eq_12, builtin.eq_13, builtin.eq_14, builtin.eq_15, builtin.eq_16, builtin.eq_17, builtin.eq_18, builtin.eq_19, builtin.eq_20, builtin.eq_21, builtin.eq_22, builtin.eq_23, builtin.eq_24, builtin.eq_25, builtin.eq_26, builtin.eq_27, builtin.eq_28, builtin.eq_29, builtin.eq_30, builtin.eq_31, builtin.eq_32, builtin.eq_33, builtin.eq_34, builtin.eq_35, builtin.eq_36, builtin.eq_37, builtin.eq_38, builtin.eq_39, builtin.eq_40, builtin.eq_41, builtin.eq_42, builtin.eq_43, binop.eq_1, binop.eq_2, binop.eq_3, binop.eq_4, binop.eq_5, binop.eq_6, binop.eq_7, binop.eq_8, binop.eq_9, binop.eq_10, binop.eq_11, binop.eq_12, cmpop.eq_1, cmpop.eq_2, cmpop.eq_3, cmpop.eq_4, cmpop.eq_5, cmpop.eq_6, cmpop.eq_7, cmpop.eq_8, cmpop.eq_9, cmpop.eq_10, cmpop.eq_11, cmpop.eq_12, cmpop.eq_13, cmpop.eq_14, cmpop.eq_15, cmpop.eq_16, cmpop.eq_17, cmpop.eq_18, cmpop.eq_19, isScalar, Tg.put.eq_1, Tg.put.eq_2, Tg.puts.eq_1, Tg.puts.eq_2, Nat.zero_le, List.set_cons_zero, List.set_cons_succ, List.getElem?_cons_zero, List.getElem?_cons_succ, List.map_cons, List.map_nil, List.cons_append, List.nil_append, List.replicate_succ, List.replicate_zero, Option.map_some, Option.map_none, Option.bind_some, if_true, if_false, Bool.not_true, Bool.not_false, Nat.sub_self, List.length_cons, List.length_nil, Bool.false_eq_true, reduceCtorEq, and_self, and_true, true_and, decide_true, decide_false, Int.reduceLT, Int.reduceLE, Int.reduceEq, Nat.reduceLeDiff, Nat.reduceAdd, eqOk_ii, eqv_ii, eqOk_ss, eqv_ss, ltOk_ii, lt_ii, l1, l2, l3, l4, Nat.zero_add, eq_self,  Bool.and_self, Bool.and_true, Bool.true_and, List.append_nil, hcomp]
    generalize cs.map List.length = zs at *
    have hq := eq_ints os
    have hc1 : evE (callP prog j) (.comp [8] (.nm 8) .ex [(.slc (.loc 5) none (some (.neg (.cst (.int 1)))))] (some (.cmp .lt (.loc 8) (.idx (.loc 6) (.cst (.int 2))))) (.loc 8)) [some (.ref 0), some (.int m), some (.tup [.bl true, y1, y2, .tup (cs.map oD)]), some (oD os), y4, some (.lst (nD zs)), some r.D, some (oD os), none] (Cup a b []) = .ok (.lst (nD [])) (Cup a b []) := by
      have := comp_keep (cf := callP prog j) (vs := [8]) (t := .nm 8) (kk := .ex) (es := [(.slc (.loc 5) none (some (.neg (.cst (.int 1)))))]) (c := (some (.cmp .lt (.loc 8) (.idx (.loc 6) (.cst (.int 2)))))) (e := .loc 8) (en := [some (.ref 0), some (.int m), some (.tup [.bl true, y1, y2, .tup (cs.map oD)]), some (oD os), y4, some (.lst (nD zs)), some r.D, some (oD os), none]) (S := Cup a b []) (fun n : Nat => D.int (n : Int)) zs.dropLast (fun z => decide (z < r.l)) (ds := [.lst (nD zs.dropLast)]) (by simp only [Int.cast_ofNat_Int, evSs_cons, evSs_none, nxt_nx, nxt_ret, retQ_ret, retQ_nx, W_ok, W_bind, bind_ok', lift_some, cup_view, vw_non, vw_int, vw_bl, vw_str, vw_tup, vw_lst, wipeE, evS.eq_1, evS.eq_2, evS.eq_3, evS.eq_4, evS.eq_5, evS.eq_6, evS.eq_7, evS.eq_8, evS.eq_9, evS.eq_10, evS.eq_11, evE.eq_1, evE.eq_2, evE.eq_3, evE.eq_4, evE.eq_5, evE.eq_6, evE.eq_7, evE.eq_8, evE.eq_9, evE.eq_10, evE.eq_11, evE.eq_12, evE.eq_13, evE.eq_14, evE.eq_15, evE.eq_16, evE.eq_17, evE.eq_18, evE.eq_19, evEs, evO, evC, builtin.eq_1, builtin.eq_2, builtin.eq_3, builtin.eq_4, builtin.eq_5, builtin.eq_6, builtin.eq_7, builtin.eq_8, builtin.eq_9, builtin.eq_10, builtin.eq_11, builtin.eq_12, builtin.eq_13, builtin.eq_14, builtin.eq_15, builtin.eq_16, builtin.eq_17, builtin.eq_18, builtin.eq_19, builtin.eq_20, builtin.eq_21, builtin.eq_22, builtin.eq_23, builtin.eq_24, builtin.eq_25, builtin.eq_26, builtin.eq_27, builtin.eq_28, builtin.eq_29, builtin.eq_30, builtin.eq_31, builtin.eq_32, builtin.eq_33, builtin.eq_34, builtin.eq_35, builtin.eq_36, builtin.eq_37, builtin.eq_38, builtin.eq_39, builtin.eq_40, builtin.eq_41, builtin.eq_42, builtin.eq_43, binop.eq_1, binop.eq_2, binop.eq_3, binop.eq_4, binop.eq_5, binop.eq_6, binop.eq_7, binop.eq_8, binop.eq_9, binop.eq_10, binop.eq_11, binop.eq_12, cmpop.eq_1, cmpop.eq_2, cmpop.eq_3, cmpop.eq_4, cmpop.eq_5, cmpop.eq_6, cmpop.eq_7, cmpop.eq_8, cmpop.eq_9, cmpop.eq_10, cmpop.eq_11, cmpop.eq_12, cmpop.eq_13, cmpop.eq_14, cmpop.eq_15, cmpop.eq_16, cmpop.eq_17, cmpop.eq_18, cmpop.eq_19, isScalar, Tg.put.eq_1, Tg.put.eq_2, Tg.puts.eq_1, Tg.puts.eq_2, Nat.zero_le, List.set_cons_zero, List.set_cons_succ, List.getElem?_cons_zero, List.getElem?_cons_succ, List.map_cons, List.map_nil, List.cons_append, List.nil_append, List.replicate_succ, List.replicate_zero, Option.map_some, Option.map_none, Option.bind_some, if_true, if_false, Bool.not_true, Bool.not_false, Nat.sub_self, List.length_cons, List.length_nil, Bool.false_eq_true, reduceCtorEq, and_self, and_true, true_and, decide_true, decide_false, Int.reduceLT, Int.reduceLE, Int.reduceEq, Nat.reduceLeDiff, Nat.reduceAdd, eqOk_ii, eqv_ii, eqOk_ss, eqv_ss, ltOk_ii, lt_ii, l1, l2, l3, l4, Nat.zero_add, eq_self,  Bool.and_self, Bool.and_true, Bool.true_and, List.append_nil, slc_last]) rfl rfl (le_line (by rw [List.length_dropLast]; omega)) fun z hz => by
        have h1 := hz2 z hz
        have h2 : ¬ (z : Int) < (r.l : Nat) := by omega
        have h3 : ¬ z < r.l := by omega
        unfold Ru.D
        simp only [bodyC, Int.cast_ofNat_Int, evSs_cons, evSs_none, nxt_nx, nxt_ret, retQ_ret, retQ_nx, W_ok, W_bind, bind_ok', lift_some, cup_view, vw_non, vw_int, vw_bl, vw_str, vw_tup, vw_lst, wipeE, evS.eq_1, evS.eq_2, evS.eq_3, evS.eq_4, evS.eq_5, evS.eq_6, evS.eq_7, evS.eq_8, evS.eq_9, evS.eq_10, evS.eq_11, evE.eq_1, evE.eq_2, evE.eq_3, evE.eq_4, evE.eq_5, evE.eq_6, evE.eq_7, evE.eq_8, evE.eq_9, evE.eq_10, evE.eq_11, evE.eq_12, evE.eq_13, evE.eq_14, evE.eq_15, evE.eq_16, evE.eq_17, evE.eq_18, evE.eq_19, evEs, evO, evC, builtin.eq_1, builtin.eq_2, builtin.eq_3, builtin.eq_4, builtin.eq_5, builtin.eq_6, builtin.eq_7, builtin.eq_8, builtin.eq_9, builtin.eq_10, builtin.eq_11, builtin.eq_12, builtin.eq_13, builtin.eq_14, builtin.eq_15, builtin.eq_16, builtin.eq_17, builtin.eq_18, builtin.eq_19, builtin.eq_20, builtin.eq_21, builtin.eq_22, builtin.eq_23, builtin.eq_24, builtin.eq_25, builtin.eq_26, builtin.eq_27, builtin.eq_28, builtin.eq_29, builtin.eq_30, builtin.eq_31, builtin.eq_32, builtin.eq_33, builtin.eq_34, builtin.eq_35, builtin.eq_36, builtin.eq_37, builtin.eq_38, builtin.eq_39, builtin.eq_40, builtin.eq_41, builtin.eq_42, builtin.eq_43, binop.eq_1, binop.eq_2, binop.eq_3, binop.eq_4, binop.eq_5, binop.eq_6, binop.eq_7, binop.eq_8, binop.eq_9, binop.eq_10, binop.eq_11, binop.eq_12, cmpop.eq_1, cmpop.eq_2, cmpop.eq_3, cmpop.eq_4, cmpop.eq_5, cmpop.eq_6, cmpop.eq_7, cmpop.eq_8, cmpop.eq_9, cmpop.eq_10, cmpop.eq_11, cmpop.eq_12, cmpop.eq_13, cmpop.eq_14, cmpop.eq_15, cmpop.eq_16, cmpop.eq_17, cmpop.eq_18, cmpop.eq_19, isScalar, Tg.put.eq_1, Tg.put.eq_2, Tg.puts.eq_1, Tg.puts.eq_2, Nat.zero_le, List.set_cons_zero, List.set_cons_succ, List.getElem?_cons_zero, List.getElem?_cons_succ, List.map_cons, List.map_nil, List.cons_append, List.nil_append, List.replicate_succ, List.replicate_zero, Option.map_some, Option.map_none, Option.bind_some, if_true, if_false, Bool.not_true, Bool.not_false, Nat.sub_self, List.length_cons, List.length_nil, Bool.false_eq_true, reduceCtorEq, and_self, and_true, true_and, decide_true, decide_false, Int.reduceLT, Int.reduceLE, Int.reduceEq, Nat.reduceLeDiff, Nat.reduceAdd, eqOk_ii, eqv_ii, eqOk_ss, eqv_ss, ltOk_ii, lt_ii, l1, l2, l3, l4, Nat.zero_add, eq_self,  Bool.and_self, Bool.and_true, Bool.true_and, List.append_nil, ix42, h2, h3]
      rw [this, List.filter_eq_nil_iff.mpr fun z hz => by have := hz2 z hz; simp; omega]
      rfl
    have hc2 : evE (callP prog j) (.comp [8] (.nm 8) .ex [(.loc 5)] (some (.not_ (.chain .le .le (.cst (.int 1)) (.loc 8) (.idx (.loc 6) (.cst (.int 3)))))) (.loc 8)) [some (.ref 0), some (.int m), some (.tup [.bl true, y1, y2, .tup (cs.map oD)]), some (oD os), y4, some (.lst (nD zs)), some r.D, some (oD os), none] (Cup a b []) = .ok (.lst (nD [])) (Cup a b []) := by
      have := comp_keep (cf := callP prog j) (vs := [8]) (t := .nm 8) (kk := .ex) (es := [(.loc 5)]) (c := (some (.not_ (.chain .le .le (.cst (.int 1)) (.loc 8) (.idx (.loc 6) (.cst (.int 3))))))) (e := .loc 8) (en := [some (.ref 0), some (.int m), some (.tup [.bl true, y1, y2, .tup (cs.map oD)]), some (oD os), y4, some (.lst (nD zs)), some r.D, some (oD os), none]) (S := Cup a b []) (fun n : Nat => D.int (n : Int)) zs (fun z => !(decide (1 ≤ z) && decide (z ≤ r.m))) (ds := [.lst (nD zs)]) (by simp only [Int.cast_ofNat_Int, evSs_cons, evSs_none, nxt_nx, nxt_ret, retQ_ret, retQ_nx, W_ok, W_bind, bind_ok', lift_some, cup_view, vw_non, vw_int, vw_bl, vw_str, vw_tup, vw_lst, wipeE, evS.eq_1, evS.eq_2, evS.eq_3, evS.eq_4, evS.eq_5, evS.eq_6, evS.eq_7, evS.eq_8, evS.eq_9, evS.eq_10, evS.eq_11, evE.eq_1, evE.eq_2, evE.eq_3, evE.eq_4, evE.eq_5, evE.eq_6, evE.eq_7, evE.eq_8, evE.eq_9, evE.eq_10, evE.eq_11, evE.eq_12, evE.eq_13, evE.eq_14, evE.eq_15, evE.eq_16, evE.eq_17, evE.eq_18, evE.eq_19, evEs, evO, evC, builtin.eq_1, builtin.eq_2, builtin.eq_3, builtin.eq_4, builtin.eq_5, builtin.eq_6, builtin.eq_7, builtin.eq_8, builtin.eq_9, builtin.eq_10, builtin.eq_11, builtin.eq_12, builtin.eq_13, builtin.eq_14, builtin.eq_15, builtin.eq_16, builtin.eq_17, builtin.eq_18, builtin.eq_19, builtin.eq_20, builtin.eq_21, builtin.eq_22, builtin.eq_23, builtin.eq_24, builtin.eq_25, builtin.eq_26, builtin.eq_27, builtin.eq_28, builtin.eq_29, builtin.eq_30, builtin.eq_31, builtin.eq_32, builtin.eq_33, builtin.eq_34, builtin.eq_35, builtin.eq_36, builtin.eq_37, builtin.eq_38, builtin.eq_39, builtin.eq_40, builtin.eq_41, builtin.eq_42, builtin.eq_43, binop.eq_1, binop.eq_2, binop.eq_3, binop.eq_4, binop.eq_5, binop.eq_6, binop.eq_7, binop.eq_8, binop.eq_9, binop.eq_10, binop.eq_11, binop.eq_12, cmpop.eq_1, cmpop.eq_2, cmpop.eq_3, cmpop.eq_4, cmpop.eq_5, cmpop.eq_6, cmpop.eq_7, cmpop.eq_8, cmpop.eq_9, cmpop.eq_10, cmpop.eq_11, cmpop.eq_12, cmpop.eq_13, cmpop.eq_14, cmpop.eq_15, cmpop.eq_16, cmpop.eq_17, cmpop.eq_18, cmpop.eq_19, isScalar, Tg.put.eq_1, Tg.put.eq_2, Tg.puts.eq_1, Tg.puts.eq_2, Nat.zero_le, List.set_cons_zero, List.set_cons_succ, List.getElem?_cons_zero, List.getElem?_cons_succ, List.map_cons, List.map_nil, List.cons_append, List.nil_append, List.replicate_succ, List.replicate_zero, Option.map_some, Option.map_none, Option.bind_some, if_true, if_false, Bool.not_true, Bool.not_false, Nat.sub_self, List.length_cons, List.length_nil, Bool.false_eq_true, reduceCtorEq, and_self, and_true, true_and, decide_true, decide_false, Int.reduceLT, Int.reduceLE, Int.reduceEq, Nat.reduceLeDiff, Nat.reduceAdd, eqOk_ii, eqv_ii, eqOk_ss, eqv_ss, ltOk_ii, lt_ii, l1, l2, l3, l4, Nat.zero_add, eq_self,  Bool.and_self, Bool.and_true, Bool.true_and, List.append_nil]) rfl rfl (le_line (by omega)) fun z hz => by
        have h1 := hz1 z hz
        have h2 : (1 : Int) ≤ (z : Nat) := by omega
        have h3 : (z : Int) ≤ (r.m : Nat) := by omega
        unfold Ru.D
        simp only [bodyC, Int.cast_ofNat_Int, evSs_cons, evSs_none, nxt_nx, nxt_ret, retQ_ret, retQ_nx, W_ok, W_bind, bind_ok', lift_some, cup_view, vw_non, vw_int, vw_bl, vw_str, vw_tup, vw_lst, wipeE, evS.eq_1, evS.eq_2, evS.eq_3, evS.eq_4, evS.eq_5, evS.eq_6, evS.eq_7, evS.eq_8, evS.eq_9, evS.eq_10, evS.eq_11, evE.eq_1, evE.eq_2, evE.eq_3, evE.eq_4, evE.eq_5, evE.eq_6, evE.eq_7, evE.eq_8, evE.eq_9, evE.eq_10, evE.eq_11, evE.eq_12, evE.eq_13, evE.eq_14, evE.eq_15, evE.eq_16, evE.eq_17, evE.eq_18, evE.eq_19, evEs, evO, evC, builtin.eq_1, builtin.eq_2, builtin.eq_3, builtin.eq_4, builtin.eq_5, builtin.eq_6, builtin.eq_7, builtin.eq_8, builtin.eq_9, builtin.eq_10, builtin.eq_11, builtin.eq_12, builtin.eq_13, builtin.eq_14, builtin.eq_15, builtin.eq_16, builtin.eq_17, builtin.eq_18, builtin.eq_19, builtin.eq_20, builtin.eq_21, builtin.eq_22, builtin.eq_23, builtin.eq_24, builtin.eq_25, builtin.eq_26, builtin.eq_27, builtin.eq_28, builtin.eq_29, builtin.eq_30, builtin.eq_31, builtin.eq_32, builtin.eq_33, builtin.eq_34, builtin.eq_35, builtin.eq_36, builtin.eq_37, builtin.eq_38, builtin.eq_39, builtin.eq_40, builtin.eq_41, builtin.eq_42, builtin.eq_43, binop.eq_1, binop.eq_2, binop.eq_3, binop.eq_4, binop.eq_5, binop.eq_6, binop.eq_7, binop.eq_8, binop.eq_9, binop.eq_10, binop.eq_11, binop.eq_12, cmpop.eq_1, cmpop.eq_2, cmpop.eq_3, cmpop.eq_4, cmpop.eq_5, cmpop.eq_6, cmpop.eq_7, cmpop.eq_8, cmpop.eq_9, cmpop.eq_10, cmpop.eq_11, cmpop.eq_12, cmpop.eq_13, cmpop.eq_14, cmpop.eq_15, cmpop.eq_16, cmpop.eq_17, cmpop.eq_18, cmpop.eq_19, isScalar, Tg.put.eq_1, Tg.put.eq_2, Tg.puts.eq_1, Tg.puts.eq_2, Nat.zero_le, List.set_cons_zero, List.set_cons_succ, List.getElem?_cons_zero, List.getElem?_cons_succ, List.map_cons, List.map_nil, List.cons_append, List.nil_append, List.replicate_succ, List.replicate_zero, Option.map_some, Option.map_none, Option.bind_some, if_true, if_false, Bool.not_true, Bool.not_false, Nat.sub_self, List.length_cons, List.length_nil, Bool.false_eq_true, reduceCtorEq, and_self, and_true, true_and, decide_true, decide_false, Int.reduceLT, Int.reduceLE, Int.reduceEq, Nat.reduceLeDiff, Nat.reduceAdd, eqOk_ii, eqv_ii, eqOk_ss, eqv_ss, ltOk_ii, lt_ii, l1, l2, l3, l4, Nat.zero_add, eq_self,  Bool.and_self, Bool.and_true, Bool.true_and, List.append_nil, ix43, h2, h3, h1.1, h1.2]
      rw [this, List.filter_eq_nil_iff.mpr fun z hz => by have := hz1 z hz; simp; omega]
      rfl
    have hcn := nil_listN []
    have hq1 : eqOk (oD os) (oD os) = true := eqOk_self (by unfold oD; rw [D.plain]; exact plains_map _ (fun _ => rfl) os) (by have := depths_map D.int 0 int_depth os; unfold oD; rw [D.depth]; omega)
    have hq2 : D.eqv (oD os) (oD os) = true := eqv_refl _ (by unfold oD; rw [D.plain]; exact plains_map _ (fun _ => rfl) os)
    have hnil : (D.lst (nD []) : D) = .lst [] := rfl
    rw [hnil] at hcn
    simp only [Int.cast_ofNat_Int, evSs_cons, evSs_none, nxt_nx, nxt_ret, retQ_ret, retQ_nx, W_ok, W_bind, bind_ok', lift_some, cup_view, vw_non, vw_int, vw_bl, vw_str, vw_tup, vw_lst, wipeE, evS.eq_1, evS.eq_2, evS.eq_3, evS.eq_4, evS.eq_5, evS.eq_6, evS.eq_7, evS.eq_8, evS.eq_9, evS.eq_10, evS.eq_11, evE.eq_1, evE.eq_2, evE.eq_3, evE.eq_4, evE.eq_5, evE.eq_6, evE.eq_7, evE.eq_8, evE.eq_9, evE.eq_10, evE.eq_11, evE.eq_12, evE.eq_13, evE.eq_14, evE.eq_15, evE.eq_16, evE.eq_17, evE.eq_18, evE.eq_19, evEs, evO, evC, builtin.eq_1, builtin.eq_2, builtin.eq_3, builtin.eq_4, builtin.eq_5, builtin.eq_6, builtin.eq_7, builtin.eq_8, builtin.eq_9, builtin.eq_10, builtin.eq_11, builtin.eq_12, builtin.eq_13, builtin.eq_14, builtin.eq_15, builtin.eq_16, builtin.eq_17, builtin.eq_18, builtin.eq_19, builtin.eq_20, builtin.eq_21, builtin.eq_22, builtin.eq_23, builtin.eq_24, builtin.eq_25, builtin.eq_26, builtin.eq_27, builtin.eq_28, builtin.eq_29, builtin.eq_30, builtin.eq_31, builtin.eq_32, builtin.eq_33, builtin.eq_34, builtin.eq_35, builtin.eq_36, builtin.eq_37, builtin.eq_38, builtin.eq_39, builtin.eq_40, builtin.eq_41, builtin.eq_42, builtin.eq_43, binop.eq_1, binop.eq_2, binop.eq_3, binop.eq_4, binop.eq_5, binop.eq_6, binop.eq_7, binop.eq_8, binop.eq_9, binop.eq_10, binop.eq_11, binop.eq_12, cmpop.eq_1, cmpop.eq_2, cmpop.eq_3, cmpop.eq_4, cmpop.eq_5, cmpop.eq_6, cmpop.eq_7, cmpop.eq_8, cmpop.eq_9, cmpop.eq_10, cmpop.eq_11, cmpop.eq_12, cmpop.eq_13, cmpop.eq_14, cmpop.eq_15, cmpop.eq_16, cmpop.eq_17, cmpop.eq_18, cmpop.eq_19, isScalar, Tg.put.eq_1, Tg.put.eq_2, Tg.puts.eq_1, Tg.puts.eq_2, Nat.zero_le, List.set_cons_zero, List.set_cons_succ, List.getElem?_cons_zero, List.getElem?_cons_succ, List.map_cons, List.map_nil, List.cons_append, List.nil_append, List.replicate_succ, List.replicate_zero, Option.map_some, Option.map_none, Option.bind_some, if_true, if_false, Bool.not_true, Bool.not_false, Nat.sub_self, List.length_cons, List.length_nil, Bool.false_eq_true, reduceCtorEq, and_self, and_true, true_and, decide_true, decide_false, Int.reduceLT, Int.reduceLE, Int.reduceEq, Nat.reduceLeDiff, Nat.reduceAdd, eqOk_ii, eqv_ii, eqOk_ss, eqv_ss, ltOk_ii, lt_ii, l1, l2, l3, l4, Nat.zero_add, eq_self,  Bool.and_self, Bool.and_true, Bool.true_and, List.append_nil, vw_oD, hq1, hq2, hc1, hc2, hnil, hcn.1, hcn.2]
    exact ⟨a, b, rfl⟩
end
/-! all places are marks -/
theorem mks_all (os : List Int) (n : Nat) : mks os 1 1 n = (List.range n).map (1 + ·) := by
  rw [mks_range, show n + 1 - 1 = n by omega, List.filter_eq_self.mpr]
  intro p _
  unfold isMk
  exact decide_eq_true (Int.emod_one _)
theorem nxc_all (os : List Int) {n l m b : Nat} (h1 : 1 ≤ l) (h2 : l ≤ m) (hb : b < n) : nxc (mks os 1 1 n ++ [n]) n l m b = min n (b + l) := by
  rw [nxc_last, mks_all]
  by_cases h : b + l ≤ n
  · have e : (List.range n).map (1 + ·) = (List.range (b + l - 1)).map (1 + ·) ++ (b + l) :: ((List.range (n - (b + l))).map fun i => 1 + (b + l - 1 + (1 + i))) := by
      conv => lhs; rw [show n = (b + l - 1) + (1 + (n - (b + l))) by omega]
      rw [List.range_add, List.map_append, List.range_add, List.map_append, List.map_append]
      simp
      omega
    rw [nxc_hit e (fun y hy => by
      obtain ⟨i, hi, rfl⟩ := List.mem_map.mp hy
      have := List.mem_range.mp hi
      omega) (Nat.le_refl _) (by omega)]
    omega
  · rw [nxc_none fun x hx => ?_]
    · omega
    · obtain ⟨i, hi, rfl⟩ := List.mem_map.mp hx
      have := List.mem_range.mp hi
      omega
theorem GG_all (os : List Int) {n l m q : Nat} (h1 : 1 ≤ l) (h2 : l ≤ m) (hq : ∀ i, i < q ↔ l * i < n) : ∀ (k i : Nat), n - l * i ≤ k → GG (mks os 1 1 n ++ [n]) n l m (min n (l * i)) = (List.range (q - i)).map fun t => min n (l * (i + t + 1))
  | k, i, hk => by
    by_cases h : l * i < n
    · cases k with
      | zero => omega
      | succ k =>
        have hl : l * (i + 1) = l * i + l := Nat.mul_succ l i
        have hi := (hq i).mpr h
        have ih := GG_all os h1 h2 hq k (i + 1) (by omega)
        rw [show min n (l * i) = l * i by omega, GG_lt h1 h2 h, nxc_all os h1 h2 h, ← hl, ih, show q - i = (q - (i + 1)) + 1 by omega, List.range_succ_eq_map, List.map_cons, List.map_map]
        congr 1
        refine List.map_congr_left fun t _ => ?_
        show min n (l * (i + 1 + t + 1)) = min n (l * (i + (t + 1) + 1))
        rw [show i + 1 + t + 1 = i + (t + 1) + 1 by omega]
    · have hi : ¬ i < q := fun h' => h ((hq i).mp h')
      rw [show q - i = 0 by omega, GG_ge (by omega)]
      rfl
theorem rep_one (o : Int) (n : Nat) : rep [.int o] (n : Int) = (List.replicate n o).map .int := by
  unfold rep
  rw [Int.toNat_natCast, List.map_replicate]
  induction n with
  | zero => rfl
  | succ n ih => rw [List.replicate_succ, List.flatten_cons, ih, List.replicate_succ]; rfl
def odds : List D := [.non, .tup [], .tup [.int 4, .int 7, .int 2], .tup [.int 4, .int 7, .int 2, .int 9, .int 0], .lst [.int 4, .int 7, .int 2, .int 9], .tup [.int 0, .int 7, .int 2, .int 9], .tup [.int 17, .int 7, .int 2, .int 9], .tup [.int 4, .int 0, .int 2, .int 9], .tup [.int 4, .int 257, .int 2, .int 9],
  .tup [.int 4, .int 7, .int 0, .int 9], .tup [.int 4, .int 7, .int 10, .int 9], .tup [.int 4, .int 7, .int 2, .int 513], .tup [.bl true, .int 7, .int 2, .int 9], .tup [.int 4, .str "7", .int 2, .int 9], .int 5]
abbrev good : D := .tup [.int 4, .int 7, .int 2, .int 9]
def st (n : Nat) : St := f_law.body.getD n .pass
theorem r_odds (a b : Int) (x0 x2 : Option D) : evS (callP prog 59) (st 3) [x0, some (.ref 0), x2, some good, none, none, none, none, none, none, none, none, none] (Cup a b []) = .ok (.nx, [x0, some (.ref 0), x2, some good, some (.lst odds), none, none, none, none, none, none, none, none]) (Cup a b []) := by kernel_rfl
theorem r_odd (a b : Int) (x0 x2 : Option D) : evS (callP prog 59) (st 4) [x0, some (.ref 0), x2, some good, some (.lst odds), none, none, none, none, none, none, none, none] (Cup a b []) = .ok (.nx, [x0, some (.ref 0), x2, some good, some (.lst odds), none, none, none, none, none, none, none, none]) (Cup a b []) := by kernel_rfl
abbrev ruleC : D := .tup [.int 1, .int 2, .int 2, .int 4]
abbrev octC : D := .tup [.int 3, .int 0, .int 5, .int 2, .int 9, .int 9, .int 9, .int 9, .int 9, .int 1, .int 4]
theorem r_one (a b : Int) (x0 x2 : Option D) : evS (callP prog 59) (st 6) [x0, some (.ref 0), x2, some good, some (.lst odds), none, some ruleC, some octC, none, none, none, none, none] (Cup a b []) = .ok (.nx, [x0, some (.ref 0), x2, some good, some (.lst odds), none, some ruleC, some octC, none, none, none, none, none]) (Cup a b []) := by kernel_rfl
theorem evSs_one {cf : CF} {s : St} {r : List St} {en en1 : Ly.Env} {S S1 : Sto} {Q : Fl × Ly.Env → Sto → Prop} (h : evS cf s en S = .ok (.nx, en1) S1) (q : W (evSs cf r en1 S1) Q) : W (evSs cf (s :: r) en S) Q := by
  rw [evSs_nx h]
  exact q
theorem evS_one {cf : CF} {s : St} {r : List St} {en en1 : Ly.Env} {S S1 : Sto} {Q : Fl × Ly.Env → Sto → Prop} (h : evS cf s en S = .ok (.nx, en1) S1) (q : W (evSs cf r en1 S1) Q) : W (evS cf s en S) (fun a S => W (nxt cf r a S) Q) := ⟨_, _, h, q⟩
theorem law_body : f_law.body = [st 0, st 1, st 2, st 3, st 4, st 5, st 6, st 7, st 8, st 9] := rfl
theorem r_law (ns : List Int) (h : ns.length ≤ 63) : ∃ S', callP prog 60 "law" [.lst (ns.map D.int)] [] = .ok (.bl true) S' := by
  suffices W (callP prog 60 "law" [.lst (ns.map D.int)] []) fun d _ => d = .bl true by
    obtain ⟨d, S, e, rfl⟩ := this
    exact ⟨S, e⟩
  refine W_call (by omega) rfl rfl fun j hj => ?_
  obtain rfl : j = 59 := by omega
  rw [law_body]
  show W (evSs (callP prog 59) [st 0, st 1, st 2, st 3, st 4, st 5, st 6, st 7, st 8, st 9] [some (.lst (ns.map .int)), none, none, none, none, none, none, none, none, none, none, none, none] []) _
  rw [evSs_cons, W_bind]
  show W (evS (callP prog 59) (.asg (.nm 1) (.call "_law_cup" [(.loc 0)])) _ _) _
  simp only [Int.cast_ofNat_Int, evSs_cons, evSs_none, nxt_nx, nxt_ret, retQ_ret, retQ_nx, W_ok, W_bind, bind_ok', lift_some, cup_view, vw_non, vw_int, vw_bl, vw_str, vw_tup, vw_lst, wipeE, evS.eq_1, evS.eq_2, evS.eq_3, evS.eq_4, evS.eq_5, evS.eq_6, evS.eq_7, evS.eq_8, evS.eq_9, evS.eq_10, evS.eq_11, evE.eq_1, evE.eq_2, evE.eq_3, evE.eq_4, evE.eq_5, evE.eq_6, evE.eq_7, evE.eq_8, evE.eq_9, evE.eq_10, evE.eq_11, evE.eq_12, evE.eq_13, evE.eq_14, evE.eq_15, evE.eq_16, evE.eq_17, evE.eq_18, evE.eq_19, evEs, evO, evC, builtin.eq_1, builtin.eq_2, builtin.eq_3, builtin.eq_4, builtin.eq_5, builtin.eq_6, builtin.eq_7, builtin.eq_8, builtin.eq_9, builtin.eq_10, builtin.eq_11, builtin.eq_12, builtin.eq_13, builtin.eq_14, builtin.eq_15, builtin.eq_16, builtin.eq_17, builtin.eq_18, builtin.eq_19, builtin.eq_20, builtin.eq_21, builtin.eq_22, builtin.eq_23, builtin.eq_24, builtin.eq_25, builtin.eq_26, builtin.eq_27, builtin.eq_28, builtin.eq_29, builtin.eq_30, builtin.eq_31, builtin.eq_32, builtin.eq_33, builtin.eq_34, builtin.eq_35, builtin.eq_36, builtin.eq_37, builtin.eq_38, builtin.eq_39, builtin.eq_40, builtin.eq_41, builtin.eq_42, builtin.eq_43, binop.eq_1, binop.eq_2, binop.eq_3, binop.eq_4, binop.eq_5, binop.eq_6, binop.eq_7, binop.eq_8, binop.eq_9, binop.eq_10, binop.eq_11, binop.eq_12, cmpop.eq_1, cmpop.eq_2, cmpop.eq_3, cmpop.eq_4, cmpop.eq_5, cmpop.eq_6, cmpop.eq_7, cmpop.eq_8, cmpop.eq_9, cmpop.eq_10, cmpop.eq_11, cmpop.eq_12, cmpop.eq_13, cmpop.eq_14, cmpop.eq_15, cmpop.eq_16, cmpop.eq_17, cmpop.eq_18, cmpop.eq_19, isScalar, Tg.put.eq_1, Tg.put.eq_2, Tg.puts.eq_1, Tg.puts.eq_2, Nat.zero_le, List.set_cons_zero, List.set_cons_succ, List.getElem?_cons_zero, List.getElem?_cons_succ, List.map_cons, List.map_nil, List.cons_append, List.nil_append, List.replicate_succ, List.replicate_zero, Option.map_some, Option.map_none, Option.bind_some, if_true, if_false, Bool.not_true, Bool.not_false, Nat.sub_self, List.length_cons, List.length_nil, Bool.false_eq_true, reduceCtorEq, and_self, and_true, true_and, decide_true, decide_false, Int.reduceLT, Int.reduceLE, Int.reduceEq, Nat.reduceLeDiff, Nat.reduceAdd, eqOk_ii, eqv_ii, eqOk_ss, eqv_ss, ltOk_ii, lt_ii, l1, l2, l3, l4, Nat.zero_add, eq_self,  Bool.and_self, Bool.and_true, Bool.true_and, List.append_nil]
  refine W_cup (P := prog) rfl (by omega) (by decide +kernel) (by decide) (by decide) h fun a b => ?_
  (try simp only [Int.cast_ofNat_Int, evSs_cons, evSs_none, nxt_nx, nxt_ret, retQ_ret, retQ_nx, W_ok, W_bind, bind_ok', lift_some, cup_view, vw_non, vw_int, vw_bl, vw_str, vw_tup, vw_lst, wipeE, evS.eq_1, evS.eq_2, evS.eq_3, evS.eq_4, evS.eq_5, evS.eq_6, evS.eq_7, evS.eq_8, evS.eq_9, evS.eq_10, evS.eq_11, evE.eq_1, evE.eq_2, evE.eq_3, evE.eq_4, evE.eq_5, evE.eq_6, evE.eq_7, evE.eq_8, evE.eq_9, evE.eq_10, evE.eq_11, evE.eq_12, evE.eq_13, evE.eq_14, evE.eq_15, evE.eq_16, evE.eq_17, evE.eq_18, evE.eq_19, evEs, evO, evC, builtin.eq_1, builtin.eq_2, builtin.eq_3, builtin.eq_4, builtin.eq_5, builtin.eq_6, builtin.eq_7, builtin.eq_8, builtin.eq_9, builtin.eq_10, builtin.eq_11, builtin.eq_12, builtin.eq_13, builtin.eq_14, builtin.eq_15, builtin.eq_16, builtin.eq_17, builtin.eq_18, builtin.eq_19, builtin.eq_20, builtin.eq_21, builtin.eq_22, builtin.eq_23, builtin.eq_24, builtin.eq_25, builtin.eq_26, builtin.eq_27, builtin.eq_28, builtin.eq_29, builtin.eq_30, builtin.eq_31, builtin.eq_32, builtin.eq_33, builtin.eq_34, builtin.eq_35, builtin.eq_36, builtin.eq_37, builtin.eq_38, builtin.eq_39, builtin.eq_40, builtin.eq_41, builtin.eq_42, builtin.eq_43, binop.eq_1, binop.eq_2, binop.eq_3, binop.eq_4, binop.eq_5, binop.eq_6, binop.eq_7, binop.eq_8, binop.eq_9, binop.eq_10, binop.eq_11, binop.eq_12, cmpop.eq_1, cmpop.eq_2, cmpop.eq_3, cmpop.eq_4, cmpop.eq_5, cmpop.eq_6, cmpop.eq_7, cmpop.eq_8, cmpop.eq_9, cmpop.eq_10, cmpop.eq_11, cmpop.eq_12, cmpop.eq_13, cmpop.eq_14, cmpop.eq_15, cmpop.eq_16, cmpop.eq_17, cmpop.eq_18, cmpop.eq_19, isScalar, Tg.put.eq_1, Tg.put.eq_2, Tg.puts.eq_1, Tg.puts.eq_2, Nat.zero_le, List.set_cons_zero, List.set_cons_succ, List.getElem?_cons_zero, List.getElem?_cons_succ, List.map_cons, List.map_nil, List.cons_append, List.nil_append, List.replicate_succ, List.replicate_zero, Option.map_some, Option.map_none, Option.bind_some, if_true, if_false, Bool.not_true, Bool.not_false, Nat.sub_self, List.length_cons, List.length_nil, Bool.false_eq_true, reduceCtorEq, and_self, and_true, true_and, decide_true, decide_false, Int.reduceLT, Int.reduceLE, Int.reduceEq, Nat.reduceLeDiff, Nat.reduceAdd, eqOk_ii, eqv_ii, eqOk_ss, eqv_ss, ltOk_ii, lt_ii, l1, l2, l3, l4, Nat.zero_add, eq_self,  Bool.and_self, Bool.and_true, Bool.true_and, List.append_nil])
  show W (evS (callP prog 59) (.for_ (.nm 2) .ex [(.tup [(.cst (.int 3)), (.cst (.int 10)), (.cst (.int 30)), (.cst (.int 60))])] [.ite (.not_ (.call "_law_right" [(.loc 1), (.loc 2)])) [.ret (.cst (.bl false))] []]) _ _) _
  refine W_for D.int ?_
  simp only [Int.cast_ofNat_Int, evSs_cons, evSs_none, nxt_nx, nxt_ret, retQ_ret, retQ_nx, W_ok, W_bind, bind_ok', lift_some, cup_view, vw_non, vw_int, vw_bl, vw_str, vw_tup, vw_lst, wipeE, evS.eq_1, evS.eq_2, evS.eq_3, evS.eq_4, evS.eq_5, evS.eq_6, evS.eq_7, evS.eq_8, evS.eq_9, evS.eq_10, evS.eq_11, evE.eq_1, evE.eq_2, evE.eq_3, evE.eq_4, evE.eq_5, evE.eq_6, evE.eq_7, evE.eq_8, evE.eq_9, evE.eq_10, evE.eq_11, evE.eq_12, evE.eq_13, evE.eq_14, evE.eq_15, evE.eq_16, evE.eq_17, evE.eq_18, evE.eq_19, evEs, evO, evC, builtin.eq_1, builtin.eq_2, builtin.eq_3, builtin.eq_4, builtin.eq_5, builtin.eq_6, builtin.eq_7, builtin.eq_8, builtin.eq_9, builtin.eq_10, builtin.eq_11, builtin.eq_12, builtin.eq_13, builtin.eq_14, builtin.eq_15, builtin.eq_16, builtin.eq_17, builtin.eq_18, builtin.eq_19, builtin.eq_20, builtin.eq_21, builtin.eq_22, builtin.eq_23, builtin.eq_24, builtin.eq_25, builtin.eq_26, builtin.eq_27, builtin.eq_28, builtin.eq_29, builtin.eq_30, builtin.eq_31, builtin.eq_32, builtin.eq_33, builtin.eq_34, builtin.eq_35, builtin.eq_36, builtin.eq_37, builtin.eq_38, builtin.eq_39, builtin.eq_40, builtin.eq_41, builtin.eq_42, builtin.eq_43, binop.eq_1, binop.eq_2, binop.eq_3, binop.eq_4, binop.eq_5, binop.eq_6, binop.eq_7, binop.eq_8, binop.eq_9, binop.eq_10, binop.eq_11, binop.eq_12, cmpop.eq_1, cmpop.eq_2, cmpop.eq_3, cmpop.eq_4, cmpop.eq_5, cmpop.eq_6, cmpop.eq_7, cmpop.eq_8, cmpop.eq_9, cmpop.eq_10, cmpop.eq_11, cmpop.eq_12, cmpop.eq_13, cmpop.eq_14, cmpop.eq_15, cmpop.eq_16, cmpop.eq_17, cmpop.eq_18, cmpop.eq_19, isScalar, Tg.put.eq_1, Tg.put.eq_2, Tg.puts.eq_1, Tg.puts.eq_2, Nat.zero_le, List.set_cons_zero, List.set_cons_succ, List.getElem?_cons_zero, List.getElem?_cons_succ, List.map_cons, List.map_nil, List.cons_append, List.nil_append, List.replicate_succ, List.replicate_zero, Option.map_some, Option.map_none, Option.bind_some, if_true, if_false, Bool.not_true, Bool.not_false, Nat.sub_self, List.length_cons, List.length_nil, Bool.false_eq_true, reduceCtorEq, and_self, and_true, true_and, decide_true, decide_false, Int.reduceLT, Int.reduceLE, Int.reduceEq, Nat.reduceLeDiff, Nat.reduceAdd, eqOk_ii, eqv_ii, eqOk_ss, eqv_ss, ltOk_ii, lt_ii, l1, l2, l3, l4, Nat.zero_add, eq_self,  Bool.and_self, Bool.and_true, Bool.true_and, List.append_nil]
  refine ⟨[3, 10, 30, 60], fun pre en T => ∃ (a b : Int) (y : Option D), en = [some (.lst (ns.map .int)), some (.ref 0), y, none, none, none, none, none, none, none, none, none, none] ∧ T = Cup a b [], rfl, rfl, ⟨a, b, none, rfl, rfl⟩, (fun pre m suf en T e h => ?_), fun en T h => ?_⟩
  · obtain ⟨a, b, y, rfl, rfl⟩ := h
    have hm : m ∈ ([3, 10, 30, 60] : List Int) := by rw [e]; simp
    have hm : 0 ≤ m ∧ m ≤ 60 := by
      simp only [List.mem_cons, List.not_mem_nil, or_false] at hm
      rcases hm with rfl | rfl | rfl | rfl <;> omega
    simp only [bodyF, Int.cast_ofNat_Int, evSs_cons, evSs_none, nxt_nx, nxt_ret, retQ_ret, retQ_nx, W_ok, W_bind, bind_ok', lift_some, cup_view, vw_non, vw_int, vw_bl, vw_str, vw_tup, vw_lst, wipeE, evS.eq_1, evS.eq_2, evS.eq_3, evS.eq_4, evS.eq_5, evS.eq_6, evS.eq_7, evS.eq_8, evS.eq_9, evS.eq_10, evS.eq_11, evE.eq_1, evE.eq_2, evE.eq_3, evE.eq_4, evE.eq_5, evE.eq_6, evE.eq_7, evE.eq_8, evE.eq_9, evE.eq_10, evE.eq_11, evE.eq_12, evE.eq_13, evE.eq_14, evE.eq_15, evE.eq_16, evE.eq_17, evE.eq_18, evE.eq_19, evEs, evO, evC, builtin.eq_1, builtin.eq_2, builtin.eq_3, builtin.eq_4, builtin.eq_5, builtin.eq_6, builtin.eq_7, builtin.eq_8, builtin.eq_9, builtin.eq_10, builtin.eq_11, builtin.eq_12, builtin.eq_13, builtin.eq_14, builtin.eq_15, builtin.eq_16, builtin.eq_17, builtin.eq_18, builtin.eq_19, builtin.eq_20, builtin.eq_21, builtin.eq_22, builtin.eq_23, builtin.eq_24, builtin.eq_25, builtin.eq_26, builtin.eq_27, builtin.eq_28, builtin.eq_29, builtin.eq_30, builtin.eq_31, builtin.eq_32, builtin.eq_33, builtin.eq_34, builtin.eq_35, builtin.eq_36, builtin.eq_37, builtin.eq_38, builtin.eq_39, builtin.eq_40, builtin.eq_41, builtin.eq_42, builtin.eq_43, binop.eq_1, binop.eq_2, binop.eq_3, binop.eq_4, binop.eq_5, binop.eq_6, binop.eq_7, binop.eq_8, binop.eq_9, binop.eq_10, binop.eq_11, binop.eq_12, cmpop.eq_1, cmpop.eq_2, cmpop.eq_3, cmpop.eq_4, cmpop.eq_5, cmpop.eq_6, cmpop.eq_7, cmpop.eq_8, cmpop.eq_9, cmpop.eq_10, cmpop.eq_11, cmpop.eq_12, cmpop.eq_13, cmpop.eq_14, cmpop.eq_15, cmpop.eq_16, cmpop.eq_17, cmpop.eq_18, cmpop.eq_19, isScalar, Tg.put.eq_1, Tg.put.eq_2, Tg.puts.eq_1, Tg.puts.eq_2, Nat.zero_le, List.set_cons_zero, List.set_cons_succ, List.getElem?_cons_zero, List.getElem?_cons_succ, List.map_cons, List.map_nil, List.cons_append, List.nil_append, List.replicate_succ, List.replicate_zero, Option.map_some, Option.map_none, Option.bind_some, if_true, if_false, Bool.not_true, Bool.not_false, Nat.sub_self, List.length_cons, List.length_nil, Bool.false_eq_true, reduceCtorEq, and_self, and_true, true_and, decide_true, decide_false, Int.reduceLT, Int.reduceLE, Int.reduceEq, Nat.reduceLeDiff, Nat.reduceAdd, eqOk_ii, eqv_ii, eqOk_ss, eqv_ss, ltOk_ii, lt_ii, l1, l2, l3, l4, Nat.zero_add, eq_self,  Bool.and_self, Bool.and_true, Bool.true_and, List.append_nil]
    refine (w_right (show 6 ≤ 59 by omega) hm.1 hm.2).mono fun d S h => ?_
    obtain ⟨rfl, a, b, rfl⟩ := h
    simp only [Int.cast_ofNat_Int, evSs_cons, evSs_none, nxt_nx, nxt_ret, retQ_ret, retQ_nx, W_ok, W_bind, bind_ok', lift_some, cup_view, vw_non, vw_int, vw_bl, vw_str, vw_tup, vw_lst, wipeE, evS.eq_1, evS.eq_2, evS.eq_3, evS.eq_4, evS.eq_5, evS.eq_6, evS.eq_7, evS.eq_8, evS.eq_9, evS.eq_10, evS.eq_11, evE.eq_1, evE.eq_2, evE.eq_3, evE.eq_4, evE.eq_5, evE.eq_6, evE.eq_7, evE.eq_8, evE.eq_9, evE.eq_10, evE.eq_11, evE.eq_12, evE.eq_13, evE.eq_14, evE.eq_15, evE.eq_16, evE.eq_17, evE.eq_18, evE.eq_19, evEs, evO, evC, builtin.eq_1, builtin.eq_2, builtin.eq_3, builtin.eq_4, builtin.eq_5, builtin.eq_6, builtin.eq_7, builtin.eq_8, builtin.eq_9, builtin.eq_10, builtin.eq_11, builtin.eq_12, builtin.eq_13, builtin.eq_14, builtin.eq_15, builtin.eq_16, builtin.eq_17, builtin.eq_18, builtin.eq_19, builtin.eq_20, builtin.eq_21, builtin.eq_22, builtin.eq_23, builtin.eq_24, builtin.eq_25, builtin.eq_26, builtin.eq_27, builtin.eq_28, builtin.eq_29, builtin.eq_30, builtin.eq_31, builtin.eq_32, builtin.eq_33, builtin.eq_34, builtin.eq_35, builtin.eq_36, builtin.eq_37, builtin.eq_38, builtin.eq_39, builtin.eq_40, builtin.eq_41, builtin.eq_42, builtin.eq_43, binop.eq_1, binop.eq_2, binop.eq_3, binop.eq_4, binop.eq_5, binop.eq_6, binop.eq_7, binop.eq_8, binop.eq_9, binop.eq_10, binop.eq_11, binop.eq_12, cmpop.eq_1, cmpop.eq_2, cmpop.eq_3, cmpop.eq_4, cmpop.eq_5, cmpop.eq_6, cmpop.eq_7, cmpop.eq_8, cmpop.eq_9, cmpop.eq_10, cmpop.eq_11, cmpop.eq_12, cmpop.eq_13, cmpop.eq_14, cmpop.eq_15, cmpop.eq_16, cmpop.eq_17, cmpop.eq_18, cmpop.eq_19, isScalar, Tg.put.eq_1, Tg.put.eq_2, Tg.puts.eq_1, Tg.puts.eq_2, Nat.zero_le, List.set_cons_zero, List.set_cons_succ, List.getElem?_cons_zero, List.getElem?_cons_succ, List.map_cons, List.map_nil, List.cons_append, List.nil_append, List.replicate_succ, List.replicate_zero, Option.map_some, Option.map_none, Option.bind_some, if_true, if_false, Bool.not_true, Bool.not_false, Nat.sub_self, List.length_cons, List.length_nil, Bool.false_eq_true, reduceCtorEq, and_self, and_true, true_and, decide_true, decide_false, Int.reduceLT, Int.reduceLE, Int.reduceEq, Nat.reduceLeDiff, Nat.reduceAdd, eqOk_ii, eqv_ii, eqOk_ss, eqv_ss, ltOk_ii, lt_ii, l1, l2, l3, l4, Nat.zero_add, eq_self,  Bool.and_self, Bool.and_true, Bool.true_and, List.append_nil]
    exact ⟨a, b, some (.int m), rfl, rfl⟩
  · obtain ⟨a, b, y, rfl, rfl⟩ := h
    refine evS_one (S1 := Cup a b []) (en1 := [some (.lst (ns.map .int)), some (.ref 0), y, some good, none, none, none, none, none, none, none, none, none]) rfl ?_
    refine evSs_one (r_odds a b _ _) ?_
    refine evSs_one (r_odd a b _ _) ?_
    refine evSs_one (S1 := Cup a b []) (en1 := [some (.lst (ns.map .int)), some (.ref 0), y, some good, some (.lst odds), none, some ruleC, some octC, none, none, none, none, none]) rfl ?_
    refine evSs_one (r_one a b _ _) ?_
    generalize D.lst odds = yo
    rw [evSs_cons, W_bind]
    show W (evS (callP prog 59) (.asg (.tup [(.nm 8), (.nm 9), (.nm 10)]) (.tup [(.bin .add (.cst (.int 1)) (.call "_law_roll" [(.loc 1), (.cst (.int 512))])), (.call "_law_roll" [(.loc 1), (.cst (.int 2000))]), (.call "_law_roll" [(.loc 1), (.cst (.int 256))])])) _ _) _
    simp only [Int.cast_ofNat_Int, evSs_cons, evSs_none, nxt_nx, nxt_ret, retQ_ret, retQ_nx, W_ok, W_bind, bind_ok', lift_some, cup_view, vw_non, vw_int, vw_bl, vw_str, vw_tup, vw_lst, wipeE, evS.eq_1, evS.eq_2, evS.eq_3, evS.eq_4, evS.eq_5, evS.eq_6, evS.eq_7, evS.eq_8, evS.eq_9, evS.eq_10, evS.eq_11, evE.eq_1, evE.eq_2, evE.eq_3, evE.eq_4, evE.eq_5, evE.eq_6, evE.eq_7, evE.eq_8, evE.eq_9, evE.eq_10, evE.eq_11, evE.eq_12, evE.eq_13, evE.eq_14, evE.eq_15, evE.eq_16, evE.eq_17, evE.eq_18, evE.eq_19, evEs, evO, evC, builtin.eq_1, builtin.eq_2, builtin.eq_3, builtin.eq_4, builtin.eq_5, builtin.eq_6, builtin.eq_7, builtin.eq_8, builtin.eq_9, builtin.eq_10, builtin.eq_11, builtin.eq_12, builtin.eq_13, builtin.eq_14, builtin.eq_15, builtin.eq_16, builtin.eq_17, builtin.eq_18, builtin.eq_19, builtin.eq_20, builtin.eq_21, builtin.eq_22, builtin.eq_23, builtin.eq_24, builtin.eq_25, builtin.eq_26, builtin.eq_27, builtin.eq_28, builtin.eq_29, builtin.eq_30, builtin.eq_31, builtin.eq_32, builtin.eq_33, builtin.eq_34, builtin.eq_35, builtin.eq_36, builtin.eq_37, builtin.eq_38, builtin.eq_39, builtin.eq_40, builtin.eq_41, builtin.eq_42, builtin.eq_43, binop.eq_1, binop.eq_2, binop.eq_3, binop.eq_4, binop.eq_5, binop.eq_6, binop.eq_7, binop.eq_8, binop.eq_9, binop.eq_10, binop.eq_11, binop.eq_12, cmpop.eq_1, cmpop.eq_2, cmpop.eq_3, cmpop.eq_4, cmpop.eq_5, cmpop.eq_6, cmpop.eq_7, cmpop.eq_8, cmpop.eq_9, cmpop.eq_10, cmpop.eq_11, cmpop.eq_12, cmpop.eq_13, cmpop.eq_14, cmpop.eq_15, cmpop.eq_16, cmpop.eq_17, cmpop.eq_18, cmpop.eq_19, isScalar, Tg.put.eq_1, Tg.put.eq_2, Tg.puts.eq_1, Tg.puts.eq_2, Nat.zero_le, List.set_cons_zero, List.set_cons_succ, List.getElem?_cons_zero, List.getElem?_cons_succ, List.map_cons, List.map_nil, List.cons_append, List.nil_append, List.replicate_succ, List.replicate_zero, Option.map_some, Option.map_none, Option.bind_some, if_true, if_false, Bool.not_true, Bool.not_false, Nat.sub_self, List.length_cons, List.length_nil, Bool.false_eq_true, reduceCtorEq, and_self, and_true, true_and, decide_true, decide_false, Int.reduceLT, Int.reduceLE, Int.reduceEq, Nat.reduceLeDiff, Nat.reduceAdd, eqOk_ii, eqv_ii, eqOk_ss, eqv_ss, ltOk_ii, lt_ii, l1, l2, l3, l4, Nat.zero_add, eq_self,  Bool.and_self, Bool.and_true, Bool.true_and, List.append_nil]
    refine w_roll rl (by omega) (by omega) (by omega) fun l a b g0 g1 => ?_
    (try simp only [Int.cast_ofNat_Int, evSs_cons, evSs_none, nxt_nx, nxt_ret, retQ_ret, retQ_nx, W_ok, W_bind, bind_ok', lift_some, cup_view, vw_non, vw_int, vw_bl, vw_str, vw_tup, vw_lst, wipeE, evS.eq_1, evS.eq_2, evS.eq_3, evS.eq_4, evS.eq_5, evS.eq_6, evS.eq_7, evS.eq_8, evS.eq_9, evS.eq_10, evS.eq_11, evE.eq_1, evE.eq_2, evE.eq_3, evE.eq_4, evE.eq_5, evE.eq_6, evE.eq_7, evE.eq_8, evE.eq_9, evE.eq_10, evE.eq_11, evE.eq_12, evE.eq_13, evE.eq_14, evE.eq_15, evE.eq_16, evE.eq_17, evE.eq_18, evE.eq_19, evEs, evO, evC, builtin.eq_1, builtin.eq_2, builtin.eq_3, builtin.eq_4, builtin.eq_5, builtin.eq_6, builtin.eq_7, builtin.eq_8, builtin.eq_9, builtin.eq_10, builtin.eq_11, builtin.eq_12, builtin.eq_13, builtin.eq_14, builtin.eq_15, builtin.eq_16, builtin.eq_17, builtin.eq_18, builtin.eq_19, builtin.eq_20, builtin.eq_21, builtin.eq_22, builtin.eq_23, builtin.eq_24, builtin.eq_25, builtin.eq_26, builtin.eq_27, builtin.eq_28, builtin.eq_29, builtin.eq_30, builtin.eq_31, builtin.eq_32, builtin.eq_33, builtin.eq_34, builtin.eq_35, builtin.eq_36, builtin.eq_37, builtin.eq_38, builtin.eq_39, builtin.eq_40, builtin.eq_41, builtin.eq_42, builtin.eq_43, binop.eq_1, binop.eq_2, binop.eq_3, binop.eq_4, binop.eq_5, binop.eq_6, binop.eq_7, binop.eq_8, binop.eq_9, binop.eq_10, binop.eq_11, binop.eq_12, cmpop.eq_1, cmpop.eq_2, cmpop.eq_3, cmpop.eq_4, cmpop.eq_5, cmpop.eq_6, cmpop.eq_7, cmpop.eq_8, cmpop.eq_9, cmpop.eq_10, cmpop.eq_11, cmpop.eq_12, cmpop.eq_13, cmpop.eq_14, cmpop.eq_15, cmpop.eq_16, cmpop.eq_17, cmpop.eq_18, cmpop.eq_19, isScalar, Tg.put.eq_1, Tg.put.eq_2, Tg.puts.eq_1, Tg.puts.eq_2, Nat.zero_le, List.set_cons_zero, List.set_cons_succ, List.getElem?_cons_zero, List.getElem?_cons_succ, List.map_cons, List.map_nil, List.cons_append, List.nil_append, List.replicate_succ, List.replicate_zero, Option.map_some, Option.map_none, Option.bind_some, if_true, if_false, Bool.not_true, Bool.not_false, Nat.sub_self, List.length_cons, List.length_nil, Bool.false_eq_true, reduceCtorEq, and_self, and_true, true_and, decide_true, decide_false, Int.reduceLT, Int.reduceLE, Int.reduceEq, Nat.reduceLeDiff, Nat.reduceAdd, eqOk_ii, eqv_ii, eqOk_ss, eqv_ss, ltOk_ii, lt_ii, l1, l2, l3, l4, Nat.zero_add, eq_self,  Bool.and_self, Bool.and_true, Bool.true_and, List.append_nil])
    refine w_roll rl (by omega) (by omega) (by omega) fun n a b n0 n1 => ?_
    (try simp only [Int.cast_ofNat_Int, evSs_cons, evSs_none, nxt_nx, nxt_ret, retQ_ret, retQ_nx, W_ok, W_bind, bind_ok', lift_some, cup_view, vw_non, vw_int, vw_bl, vw_str, vw_tup, vw_lst, wipeE, evS.eq_1, evS.eq_2, evS.eq_3, evS.eq_4, evS.eq_5, evS.eq_6, evS.eq_7, evS.eq_8, evS.eq_9, evS.eq_10, evS.eq_11, evE.eq_1, evE.eq_2, evE.eq_3, evE.eq_4, evE.eq_5, evE.eq_6, evE.eq_7, evE.eq_8, evE.eq_9, evE.eq_10, evE.eq_11, evE.eq_12, evE.eq_13, evE.eq_14, evE.eq_15, evE.eq_16, evE.eq_17, evE.eq_18, evE.eq_19, evEs, evO, evC, builtin.eq_1, builtin.eq_2, builtin.eq_3, builtin.eq_4, builtin.eq_5, builtin.eq_6, builtin.eq_7, builtin.eq_8, builtin.eq_9, builtin.eq_10, builtin.eq_11, builtin.eq_12, builtin.eq_13, builtin.eq_14, builtin.eq_15, builtin.eq_16, builtin.eq_17, builtin.eq_18, builtin.eq_19, builtin.eq_20, builtin.eq_21, builtin.eq_22, builtin.eq_23, builtin.eq_24, builtin.eq_25, builtin.eq_26, builtin.eq_27, builtin.eq_28, builtin.eq_29, builtin.eq_30, builtin.eq_31, builtin.eq_32, builtin.eq_33, builtin.eq_34, builtin.eq_35, builtin.eq_36, builtin.eq_37, builtin.eq_38, builtin.eq_39, builtin.eq_40, builtin.eq_41, builtin.eq_42, builtin.eq_43, binop.eq_1, binop.eq_2, binop.eq_3, binop.eq_4, binop.eq_5, binop.eq_6, binop.eq_7, binop.eq_8, binop.eq_9, binop.eq_10, binop.eq_11, binop.eq_12, cmpop.eq_1, cmpop.eq_2, cmpop.eq_3, cmpop.eq_4, cmpop.eq_5, cmpop.eq_6, cmpop.eq_7, cmpop.eq_8, cmpop.eq_9, cmpop.eq_10, cmpop.eq_11, cmpop.eq_12, cmpop.eq_13, cmpop.eq_14, cmpop.eq_15, cmpop.eq_16, cmpop.eq_17, cmpop.eq_18, cmpop.eq_19, isScalar, Tg.put.eq_1, Tg.put.eq_2, Tg.puts.eq_1, Tg.puts.eq_2, Nat.zero_le, List.set_cons_zero, List.set_cons_succ, List.getElem?_cons_zero, List.getElem?_cons_succ, List.map_cons, List.map_nil, List.cons_append, List.nil_append, List.replicate_succ, List.replicate_zero, Option.map_some, Option.map_none, Option.bind_some, if_true, if_false, Bool.not_true, Bool.not_false, Nat.sub_self, List.length_cons, List.length_nil, Bool.false_eq_true, reduceCtorEq, and_self, and_true, true_and, decide_true, decide_false, Int.reduceLT, Int.reduceLE, Int.reduceEq, Nat.reduceLeDiff, Nat.reduceAdd, eqOk_ii, eqv_ii, eqOk_ss, eqv_ss, ltOk_ii, lt_ii, l1, l2, l3, l4, Nat.zero_add, eq_self,  Bool.and_self, Bool.and_true, Bool.true_and, List.append_nil])
    refine w_roll rl (by omega) (by omega) (by omega) fun o a b o0 o1 => ?_
    (try simp only [Int.cast_ofNat_Int, evSs_cons, evSs_none, nxt_nx, nxt_ret, retQ_ret, retQ_nx, W_ok, W_bind, bind_ok', lift_some, cup_view, vw_non, vw_int, vw_bl, vw_str, vw_tup, vw_lst, wipeE, evS.eq_1, evS.eq_2, evS.eq_3, evS.eq_4, evS.eq_5, evS.eq_6, evS.eq_7, evS.eq_8, evS.eq_9, evS.eq_10, evS.eq_11, evE.eq_1, evE.eq_2, evE.eq_3, evE.eq_4, evE.eq_5, evE.eq_6, evE.eq_7, evE.eq_8, evE.eq_9, evE.eq_10, evE.eq_11, evE.eq_12, evE.eq_13, evE.eq_14, evE.eq_15, evE.eq_16, evE.eq_17, evE.eq_18, evE.eq_19, evEs, evO, evC, builtin.eq_1, builtin.eq_2, builtin.eq_3, builtin.eq_4, builtin.eq_5, builtin.eq_6, builtin.eq_7, builtin.eq_8, builtin.eq_9, builtin.eq_10, builtin.eq_11, builtin.eq_12, builtin.eq_13, builtin.eq_14, builtin.eq_15, builtin.eq_16, builtin.eq_17, builtin.eq_18, builtin.eq_19, builtin.eq_20, builtin.eq_21, builtin.eq_22, builtin.eq_23, builtin.eq_24, builtin.eq_25, builtin.eq_26, builtin.eq_27, builtin.eq_28, builtin.eq_29, builtin.eq_30, builtin.eq_31, builtin.eq_32, builtin.eq_33, builtin.eq_34, builtin.eq_35, builtin.eq_36, builtin.eq_37, builtin.eq_38, builtin.eq_39, builtin.eq_40, builtin.eq_41, builtin.eq_42, builtin.eq_43, binop.eq_1, binop.eq_2, binop.eq_3, binop.eq_4, binop.eq_5, binop.eq_6, binop.eq_7, binop.eq_8, binop.eq_9, binop.eq_10, binop.eq_11, binop.eq_12, cmpop.eq_1, cmpop.eq_2, cmpop.eq_3, cmpop.eq_4, cmpop.eq_5, cmpop.eq_6, cmpop.eq_7, cmpop.eq_8, cmpop.eq_9, cmpop.eq_10, cmpop.eq_11, cmpop.eq_12, cmpop.eq_13, cmpop.eq_14, cmpop.eq_15, cmpop.eq_16, cmpop.eq_17, cmpop.eq_18, cmpop.eq_19, isScalar, Tg.put.eq_1, Tg.put.eq_2, Tg.puts.eq_1, Tg.puts.eq_2, Nat.zero_le, List.set_cons_zero, List.set_cons_succ, List.getElem?_cons_zero, List.getElem?_cons_succ, List.map_cons, List.map_nil, List.cons_append, List.nil_append, List.replicate_succ, List.replicate_zero, Option.map_some, Option.map_none, Option.bind_some, if_true, if_false, Bool.not_true, Bool.not_false, Nat.sub_self, List.length_cons, List.length_nil, Bool.false_eq_true, reduceCtorEq, and_self, and_true, true_and, decide_true, decide_false, Int.reduceLT, Int.reduceLE, Int.reduceEq, Nat.reduceLeDiff, Nat.reduceAdd, eqOk_ii, eqv_ii, eqOk_ss, eqv_ss, ltOk_ii, lt_ii, l1, l2, l3, l4, Nat.zero_add, eq_self,  Bool.and_self, Bool.and_true, Bool.true_and, List.append_nil])
    show W (evS (callP prog 59) (.asg (.nm 5) (.bi .tuple [(.comp [12] (.nm 12) .range [(.bin .fdiv (.bin .sub (.bin .add (.loc 9) (.loc 8)) (.cst (.int 1))) (.loc 8))] none (.bi .min [(.loc 9), (.bin .mul (.loc 8) (.bin .add (.loc 12) (.cst (.int 1))))]))])) _ _) _
    obtain ⟨n, rfl⟩ := Int.eq_ofNat_of_zero_le n0
    obtain ⟨l, rfl⟩ : ∃ l' : Nat, l = (l' : Int) := ⟨l.toNat, by omega⟩
    have el : (1 : Int) + (l : Nat) = ((l + 1 : Nat) : Int) := by omega
    rw [el]
    have hl1 : 1 ≤ l + 1 := by omega
    have hl2 : l + 1 ≤ 512 := by omega
    generalize l + 1 = l at *
    have hdv : divOk (l : Int) = true := div_small (by omega) (by omega)
    have hdue : evE (callP prog 59) (.comp [12] (.nm 12) .range [(.bin .fdiv (.bin .sub (.bin .add (.loc 9) (.loc 8)) (.cst (.int 1))) (.loc 8))] none (.bi .min [(.loc 9), (.bin .mul (.loc 8) (.bin .add (.loc 12) (.cst (.int 1))))])) [some (.lst (ns.map .int)), some (.ref 0), y, some good, some yo, none, some ruleC, some octC, some (.int l), some (.int n), some (.int o), none, none] (Cup a b []) =
        .ok (.lst (nD ((List.range ((n + l - 1) / l)).map fun t => min n (l * (0 + t + 1))))) (Cup a b []) := by
      have hqn : (n + l - 1) / l ≤ 5000 := Nat.le_trans (Nat.div_le_self _ _) (by omega)
      have := comp_map (cf := callP prog 59) (vs := [12]) (t := .nm 12) (kk := .range) (es := [(.bin .fdiv (.bin .sub (.bin .add (.loc 9) (.loc 8)) (.cst (.int 1))) (.loc 8))]) (c := none) (e := .bi .min [(.loc 9), (.bin .mul (.loc 8) (.bin .add (.loc 12) (.cst (.int 1))))]) (en := [some (.lst (ns.map .int)), some (.ref 0), y, some good, some yo, none, some ruleC, some octC, some (.int l), some (.int n), some (.int o), none, none]) (S := Cup a b [])
        (fun i : Nat => D.int (i : Int)) (List.range ((n + l - 1) / l)) (fun t => D.int ((min n (l * (0 + t + 1)) : Nat) : Int)) (ds := [.int (((n + l - 1) / l : Nat) : Int)]) ?_ ?_ rfl (le_line (by rw [List.length_range]; omega)) fun t ht => ?_
      · rw [this]
        unfold nD
        rw [List.map_map]
        rfl
      · have e : ((n : Int) + l - 1) / l = (((n + l - 1) / l : Nat) : Int) := by rw [Int.natCast_ediv]; congr 1; omega
        simp only [Int.cast_ofNat_Int, evSs_cons, evSs_none, nxt_nx, nxt_ret, retQ_ret, retQ_nx, W_ok, W_bind, bind_ok', lift_some, cup_view, vw_non, vw_int, vw_bl, vw_str, vw_tup, vw_lst, wipeE, evS.eq_1, evS.eq_2, evS.eq_3, evS.eq_4, evS.eq_5, evS.eq_6, evS.eq_7, evS.eq_8, evS.eq_9, evS.eq_10, evS.eq_11, evE.eq_1, evE.eq_2, evE.eq_3, evE.eq_4, evE.eq_5, evE.eq_6, evE.eq_7, evE.eq_8, evE.eq_9, evE.eq_10, evE.eq_11, evE.eq_12, evE.eq_13, evE.eq_14, evE.eq_15, evE.eq_16, evE.eq_17, evE.eq_18, evE.eq_19, evEs, evO, evC, builtin.eq_1, builtin.eq_2, builtin.eq_3, builtin.eq_4, builtin.eq_5, builtin.eq_6, builtin.eq_7, builtin.eq_8, builtin.eq_9, builtin.eq_10, builtin.eq_11, builtin.eq_12, builtin.eq_13, builtin.eq_14, builtin.eq_15, builtin.eq_16, builtin.eq_17, builtin.eq_18, builtin.eq_19, builtin.eq_20, builtin.eq_21, builtin.eq_22, builtin.eq_23, builtin.eq_24, builtin.eq_25, builtin.eq_26, builtin.eq_27, builtin.eq_28, builtin.eq_29, builtin.eq_30, builtin.eq_31, builtin.eq_32, builtin.eq_33, builtin.eq_34, builtin.eq_35, builtin.eq_36, builtin.eq_37, builtin.eq_38, builtin.eq_39, builtin.eq_40, builtin.eq_41, builtin.eq_42, builtin.eq_43, binop.eq_1, binop.eq_2, binop.eq_3, binop.eq_4, binop.eq_5, binop.eq_6, binop.eq_7, binop.eq_8, binop.eq_9, binop.eq_10, binop.eq_11, binop.eq_12, cmpop.eq_1, cmpop.eq_2, cmpop.eq_3, cmpop.eq_4, cmpop.eq_5, cmpop.eq_6, cmpop.eq_7, cmpop.eq_8, cmpop.eq_9, cmpop.eq_10, cmpop.eq_11, cmpop.eq_12, cmpop.eq_13, cmpop.eq_14, cmpop.eq_15, cmpop.eq_16, cmpop.eq_17, cmpop.eq_18, cmpop.eq_19, isScalar, Tg.put.eq_1, Tg.put.eq_2, Tg.puts.eq_1, Tg.puts.eq_2, Nat.zero_le, List.set_cons_zero, List.set_cons_succ, List.getElem?_cons_zero, List.getElem?_cons_succ, List.map_cons, List.map_nil, List.cons_append, List.nil_append, List.replicate_succ, List.replicate_zero, Option.map_some, Option.map_none, Option.bind_some, if_true, if_false, Bool.not_true, Bool.not_false, Nat.sub_self, List.length_cons, List.length_nil, Bool.false_eq_true, reduceCtorEq, and_self, and_true, true_and, decide_true, decide_false, Int.reduceLT, Int.reduceLE, Int.reduceEq, Nat.reduceLeDiff, Nat.reduceAdd, eqOk_ii, eqv_ii, eqOk_ss, eqv_ss, ltOk_ii, lt_ii, l1, l2, l3, l4, Nat.zero_add, eq_self,  Bool.and_self, Bool.and_true, Bool.true_and, List.append_nil, hdv, e]
      · have := walk_rng (S := Cup a b []) (j := (((n + l - 1) / l : Nat) : Int)) (Int.natCast_nonneg _) (by generalize (n + l - 1) / l = q at *; omega)
        rw [Int.toNat_natCast] at this
        exact this
      · have hml : mulOk (l : Int) ((t : Int) + 1) = true := mul_smallL (by omega)
        have e : (if (l : Int) * ((t : Int) + 1) < (n : Int) then (l : Int) * ((t : Int) + 1) else (n : Int)) = ((min n (l * (0 + t + 1)) : Nat) : Int) := by
          have : (l : Int) * ((t : Int) + 1) = ((l * (0 + t + 1) : Nat) : Int) := by rw [Nat.zero_add, Int.natCast_mul]; rfl
          rw [this]
          split <;> omega
        simp only [bodyC, Int.cast_ofNat_Int, evSs_cons, evSs_none, nxt_nx, nxt_ret, retQ_ret, retQ_nx, W_ok, W_bind, bind_ok', lift_some, cup_view, vw_non, vw_int, vw_bl, vw_str, vw_tup, vw_lst, wipeE, evS.eq_1, evS.eq_2, evS.eq_3, evS.eq_4, evS.eq_5, evS.eq_6, evS.eq_7, evS.eq_8, evS.eq_9, evS.eq_10, evS.eq_11, evE.eq_1, evE.eq_2, evE.eq_3, evE.eq_4, evE.eq_5, evE.eq_6, evE.eq_7, evE.eq_8, evE.eq_9, evE.eq_10, evE.eq_11, evE.eq_12, evE.eq_13, evE.eq_14, evE.eq_15, evE.eq_16, evE.eq_17, evE.eq_18, evE.eq_19, evEs, evO, evC, builtin.eq_1, builtin.eq_2, builtin.eq_3, builtin.eq_4, builtin.eq_5, builtin.eq_6, builtin.eq_7, builtin.eq_8, builtin.eq_9, builtin.eq_10, builtin.eq_11, builtin.eq_12, builtin.eq_13, builtin.eq_14, builtin.eq_15, builtin.eq_16, builtin.eq_17, builtin.eq_18, builtin.eq_19, builtin.eq_20, builtin.eq_21, builtin.eq_22, builtin.eq_23, builtin.eq_24, builtin.eq_25, builtin.eq_26, builtin.eq_27, builtin.eq_28, builtin.eq_29, builtin.eq_30, builtin.eq_31, builtin.eq_32, builtin.eq_33, builtin.eq_34, builtin.eq_35, builtin.eq_36, builtin.eq_37, builtin.eq_38, builtin.eq_39, builtin.eq_40, builtin.eq_41, builtin.eq_42, builtin.eq_43, binop.eq_1, binop.eq_2, binop.eq_3, binop.eq_4, binop.eq_5, binop.eq_6, binop.eq_7, binop.eq_8, binop.eq_9, binop.eq_10, binop.eq_11, binop.eq_12, cmpop.eq_1, cmpop.eq_2, cmpop.eq_3, cmpop.eq_4, cmpop.eq_5, cmpop.eq_6, cmpop.eq_7, cmpop.eq_8, cmpop.eq_9, cmpop.eq_10, cmpop.eq_11, cmpop.eq_12, cmpop.eq_13, cmpop.eq_14, cmpop.eq_15, cmpop.eq_16, cmpop.eq_17, cmpop.eq_18, cmpop.eq_19, isScalar, Tg.put.eq_1, Tg.put.eq_2, Tg.puts.eq_1, Tg.puts.eq_2, Nat.zero_le, List.set_cons_zero, List.set_cons_succ, List.getElem?_cons_zero, List.getElem?_cons_succ, List.map_cons, List.map_nil, List.cons_append, List.nil_append, List.replicate_succ, List.replicate_zero, Option.map_some, Option.map_none, Option.bind_some, if_true, if_false, Bool.not_true, Bool.not_false, Nat.sub_self, List.length_cons, List.length_nil, Bool.false_eq_true, reduceCtorEq, and_self, and_true, true_and, decide_true, decide_false, Int.reduceLT, Int.reduceLE, Int.reduceEq, Nat.reduceLeDiff, Nat.reduceAdd, eqOk_ii, eqv_ii, eqOk_ss, eqv_ss, ltOk_ii, lt_ii, l1, l2, l3, l4, Nat.zero_add, eq_self,  Bool.and_self, Bool.and_true, Bool.true_and, List.append_nil, hml, e]
    have hr : (Ru.mk 1 1 l 512).Ok := ⟨Nat.le_refl 1, by show 1 ≤ 16; omega, Nat.le_refl 1, by show 1 ≤ 256; omega, hl1, hl2, hl2, Nat.le_refl 512⟩
    have hr2 : (Ru.mk 16 1 1 1).Ok := ⟨by decide, by decide, by decide, by decide, by decide, by decide, by decide, by decide⟩
    have hoc : ∀ n, Oct (List.replicate n o) := fun n z hz => by
      rw [(List.mem_replicate.mp hz).2]
      omega
    have hn : n < 2000 := by omega
    have e1 := r_cuts (k := 59) (S := Cup a b []) (by omega) hr (hoc n) (by rw [List.length_replicate]; omega)
    have e2 := r_marks (k := 59) (S := Cup a b []) (by omega) hr2 (hoc 15) (by rw [List.length_replicate]; omega)
    have hG := GG_all (List.replicate n o) (n := n) (l := l) (m := 512) (q := (n + l - 1) / l) hl1 hl2 (fun i => by
      rw [Nat.lt_iff_add_one_le, Nat.le_div_iff_mul_le (by omega), Nat.add_mul, Nat.mul_comm i l]
      omega) n 0 (by omega)
    have hcut : cutsL (List.replicate n o) ⟨1, 1, l, 512⟩ = (List.range ((n + l - 1) / l)).map fun t => min n (l * (0 + t + 1)) := by
      unfold cutsL
      simp only [List.length_replicate]
      rw [Nat.mul_zero, Nat.min_zero, Nat.sub_zero] at hG
      exact hG
    have hmk : mks (List.replicate 15 o) 16 1 15 = [] := by rw [mks_range]; rfl
    simp only [hcut] at e1
    simp only [List.length_replicate, hmk] at e2
    have c1 : ((n : Int).natAbs < 2 ^ 62 ∧ 1 * ((n : Int)).toNat ≤ line) := ⟨by omega, by unfold line; omega⟩
    have c2 : ((15 : Int).natAbs < 2 ^ 62 ∧ 1 * ((15 : Int)).toNat ≤ line) := ⟨by decide, by decide⟩
    have hr15 : rep [.int o] 15 = (List.replicate 15 o).map .int := rep_one o 15
    have s1 := same_deep (P := prog) rfl (S := Cup a b []) (k := 59) (show 1 + 1 ≤ 59 by omega) (deep_nD (n := 0) ((List.range ((n + l - 1) / l)).map fun t => min n (l * (0 + t + 1))) (by
      rw [List.length_map, List.length_range]
      exact Nat.le_trans (Nat.div_le_self _ _) (by omega)))
    have s2 := same_deep (P := prog) rfl (S := Cup a b []) (k := 59) (show 1 + 1 ≤ 59 by omega) (deep_nD (n := 0) [] (by simp))
    unfold oD Ru.D at e1 e2
    simp only [Int.cast_ofNat_Int] at e1 e2
    have hnil : nD [] = [] := rfl
    rw [hnil] at s2 e2
    simp only [Nat.zero_add] at hdue e1 s1
    simp only [Int.cast_ofNat_Int, evSs_cons, evSs_none, nxt_nx, nxt_ret, retQ_ret, retQ_nx, W_ok, W_bind, bind_ok', lift_some, cup_view, vw_non, vw_int, vw_bl, vw_str, vw_tup, vw_lst, wipeE, evS.eq_1, evS.eq_2, evS.eq_3, evS.eq_4, evS.eq_5, evS.eq_6, evS.eq_7, evS.eq_8, evS.eq_9, evS.eq_10, evS.eq_11, evE.eq_1, evE.eq_2, evE.eq_3, evE.eq_4, evE.eq_5, evE.eq_6, evE.eq_7, evE.eq_8, evE.eq_9, evE.eq_10, evE.eq_11, evE.eq_12, evE.eq_13, evE.eq_14, evE.eq_15, evE.eq_16, evE.eq_17, evE.eq_18, evE.eq_19, evEs, evO, evC, builtin.eq_1, builtin.eq_2, builtin.eq_3, builtin.eq_4, builtin.eq_5, builtin.eq_6, builtin.eq_7, builtin.eq_8, builtin.eq_9, builtin.eq_10, builtin.eq_11, builtin.eq_12, builtin.eq_13, builtin.eq_14, builtin.eq_15, builtin.eq_16, builtin.eq_17, builtin.eq_18, builtin.eq_19, builtin.eq_20, builtin.eq_21, builtin.eq_22, builtin.eq_23, builtin.eq_24, builtin.eq_25, builtin.eq_26, builtin.eq_27, builtin.eq_28, builtin.eq_29, builtin.eq_30, builtin.eq_31, builtin.eq_32, builtin.eq_33, builtin.eq_34, builtin.eq_35, builtin.eq_36, builtin.eq_37, builtin.eq_38, builtin.eq_39, builtin.eq_40, builtin.eq_41, builtin.eq_42, builtin.eq_43, binop.eq_1, binop.eq_2, binop.eq_3, binop.eq_4, binop.eq_5, binop.eq_6, binop.eq_7, binop.eq_8, binop.eq_9, binop.eq_10, binop.eq_11, binop.eq_12, cmpop.eq_1, cmpop.eq_2, cmpop.eq_3, cmpop.eq_4, cmpop.eq_5, cmpop.eq_6, cmpop.eq_7, cmpop.eq_8, cmpop.eq_9, cmpop.eq_10, cmpop.eq_11, cmpop.eq_12, cmpop.eq_13, cmpop.eq_14, cmpop.eq_15, cmpop.eq_16, cmpop.eq_17, cmpop.eq_18, cmpop.eq_19, isScalar, Tg.put.eq_1, Tg.put.eq_2, Tg.puts.eq_1, Tg.puts.eq_2, Nat.zero_le, List.set_cons_zero, List.set_cons_succ, List.getElem?_cons_zero, List.getElem?_cons_succ, List.map_cons, List.map_nil, List.cons_append, List.nil_append, List.replicate_succ, List.replicate_zero, Option.map_some, Option.map_none, Option.bind_some, if_true, if_false, Bool.not_true, Bool.not_false, Nat.sub_self, List.length_cons, List.length_nil, Bool.false_eq_true, reduceCtorEq, and_self, and_true, true_and, decide_true, decide_false, Int.reduceLT, Int.reduceLE, Int.reduceEq, Nat.reduceLeDiff, Nat.reduceAdd, eqOk_ii, eqv_ii, eqOk_ss, eqv_ss, ltOk_ii, lt_ii, l1, l2, l3, l4, Nat.zero_add, eq_self,  Bool.and_self, Bool.and_true, Bool.true_and, List.append_nil, hdue]
    show W (evS (callP prog 59) (.ret (.and_ (.call "_law_same" [(.call "cuts" [(.tup [(.cst (.int 1)), (.cst (.int 1)), (.loc 8), (.cst (.int 512))]), (.bin .mul (.tup [(.loc 10)]) (.loc 9))]), (.loc 5)]) (.call "_law_same" [(.call "marks" [(.tup [(.cst (.int 16)), (.cst (.int 1)), (.cst (.int 1)), (.cst (.int 1))]), (.bin .mul (.tup [(.loc 10)]) (.cst (.int 15)))]), (.tup [])]))) _ _) _
    simp only [Int.cast_ofNat_Int, evSs_cons, evSs_none, nxt_nx, nxt_ret, retQ_ret, retQ_nx, W_ok, W_bind, bind_ok', lift_some, cup_view, vw_non, vw_int, vw_bl, vw_str, vw_tup, vw_lst, wipeE, evS.eq_1, evS.eq_2, evS.eq_3, evS.eq_4, evS.eq_5, evS.eq_6, evS.eq_7, evS.eq_8, evS.eq_9, evS.eq_10, evS.eq_11, evE.eq_1, evE.eq_2, evE.eq_3, evE.eq_4, evE.eq_5, evE.eq_6, evE.eq_7, evE.eq_8, evE.eq_9, evE.eq_10, evE.eq_11, evE.eq_12, evE.eq_13, evE.eq_14, evE.eq_15, evE.eq_16, evE.eq_17, evE.eq_18, evE.eq_19, evEs, evO, evC, builtin.eq_1, builtin.eq_2, builtin.eq_3, builtin.eq_4, builtin.eq_5, builtin.eq_6, builtin.eq_7, builtin.eq_8, builtin.eq_9, builtin.eq_10, builtin.eq_11, builtin.eq_12, builtin.eq_13, builtin.eq_14, builtin.eq_15, builtin.eq_16, builtin.eq_17, builtin.eq_18, builtin.eq_19, builtin.eq_20, builtin.eq_21, builtin.eq_22, builtin.eq_23, builtin.eq_24, builtin.eq_25, builtin.eq_26, builtin.eq_27, builtin.eq_28, builtin.eq_29, builtin.eq_30, builtin.eq_31, builtin.eq_32, builtin.eq_33, builtin.eq_34, builtin.eq_35, builtin.eq_36, builtin.eq_37, builtin.eq_38, builtin.eq_39, builtin.eq_40, builtin.eq_41, builtin.eq_42, builtin.eq_43, binop.eq_1, binop.eq_2, binop.eq_3, binop.eq_4, binop.eq_5, binop.eq_6, binop.eq_7, binop.eq_8, binop.eq_9, binop.eq_10, binop.eq_11, binop.eq_12, cmpop.eq_1, cmpop.eq_2, cmpop.eq_3, cmpop.eq_4, cmpop.eq_5, cmpop.eq_6, cmpop.eq_7, cmpop.eq_8, cmpop.eq_9, cmpop.eq_10, cmpop.eq_11, cmpop.eq_12, cmpop.eq_13, cmpop.eq_14, cmpop.eq_15, cmpop.eq_16, cmpop.eq_17, cmpop.eq_18, cmpop.eq_19, isScalar, Tg.put.eq_1, Tg.put.eq_2, Tg.puts.eq_1, Tg.puts.eq_2, Nat.zero_le, List.set_cons_zero, List.set_cons_succ, List.getElem?_cons_zero, List.getElem?_cons_succ, List.map_cons, List.map_nil, List.cons_append, List.nil_append, List.replicate_succ, List.replicate_zero, Option.map_some, Option.map_none, Option.bind_some, if_true, if_false, Bool.not_true, Bool.not_false, Nat.sub_self, List.length_cons, List.length_nil, Bool.false_eq_true, reduceCtorEq, and_self, and_true, true_and, decide_true, decide_false, Int.reduceLT, Int.reduceLE, Int.reduceEq, Nat.reduceLeDiff, Nat.reduceAdd, eqOk_ii, eqv_ii, eqOk_ss, eqv_ss, ltOk_ii, lt_ii, l1, l2, l3, l4, Nat.zero_add, eq_self,  Bool.and_self, Bool.and_true, Bool.true_and, List.append_nil, c1, c2, rep_one, hr15, e1, s1]
    exact W.of e2 (W.of s2 rfl)
theorem law_runs : ∃ P, progO = some P ∧ ∀ ns : List Int, ns.length ≤ 63 → ∃ S', callP P 60 "law" [.lst (ns.map D.int)] [] = .ok (.bl true) S' := ⟨prog, by kernel_rfl, r_law⟩
end LyLaw


set_option maxHeartbeats 0
namespace LyLaw
open PySem PySem.Spec PyProof.Rows L2 Ly
abbrev R : PySem.W.OpenRow := PySem.W.OpenLaw.row PySem.Challenge.rw_layersheld_k45_whole_chunks_by_marks
abbrev fa : List He.Fa := faOf glob
abbrev fn : List He.DefD := fnOf' body itemsL
abbrev hk : PySem.W.Hook := He.hookD 3 fa fn
def ob (s : PySem.W.SharedT) : He.AlD := He.obsDG 3 fa fn (HandSHeadRun.getT s)
theorem ob_eq (s : PySem.W.SharedT) : ob s = hk.obs s.abs := He.obsDG_eq (HandSHeadRun.getT_eq s)
def loose0 : List PySem.Str := ["LayerError", "InvalidOctets", "InvalidRule", "is_whole", "is_tuple_of", "fits_octets", "OCTETS", "WIDE", "BASE", "PRIME", "PARTS", "SIZE", "fits_rule", "need_both", "marks_in", "cuts_in", "chunks_in", "is_rule", "marks", "cuts"]
def loose1 : List PySem.Str := ["chunks", "_law_cup", "_law_roll", "_law_same", "_law_some", "_law_file", "_law_rule", "_law_octets", "_law_marks", "_law_cuts", "_law_chunks", "_law_right"]
abbrev loose : List PySem.Str := loose0 ++ loose1
theorem run (w : World) : HandSHeadRun.RunEq R (PySem.W.view R.prog [36]) hk ob 2000 loose w := by
  intro os
  kernel_rfl
end LyLaw
open PySem PySem.W PySem.Calls PyProof.Rows
theorem PySem.Challenge.cw_layersheld_k45_whole_chunks_by_marks_holds : PySem.Challenge.rw_layersheld_k45_whole_chunks_by_marks.Holds := by
  w_on; o_law
  refine HandSHeadRun.head_any (r := OpenLaw.row PySem.Challenge.rw_layersheld_k45_whole_chunks_by_marks) (q := view (OpenLaw.row PySem.Challenge.rw_layersheld_k45_whole_chunks_by_marks).prog [36]) (H := LyLaw.hk) (ob := LyLaw.ob) (M := 2000) (loose := LyLaw.loose) (d := HandSHeadRun.topDef (OpenLaw.row PySem.Challenge.rw_layersheld_k45_whole_chunks_by_marks).prog 36) (kwd := []) LyLaw.ob_eq
    (by kernel_rfl) (fun s => by kernel_rfl) LyLaw.run (by kernel_rfl) (by kernel_rfl) (by kernel_rfl) (by rfl) (by first | assumption | decide +kernel) (by decide +kernel) ⟨rfl, rfl, rfl, rfl, rfl, by decide +kernel⟩ ?hw ?hc
  case hw => w_witness2
  case hc =>
    obtain ⟨P, hP, hl⟩ := LyLaw.law_runs
    exact Ly.law_walk (l := PySem.Challenge.rw_layersheld_k45_whole_chunks_by_marks) (G := LyLaw.glob) (items := LyLaw.itemsL) (P := P) (k := 60) (n := 63) (xs := "script") (m := 23) rfl (by decide) (by kernel_rfl) ⟨rfl, by decide, by decide⟩ hP (by decide +kernel) (by kernel_rfl) (by decide +kernel) (by rfl) (by rfl) (by kernel_rfl) hl

