import PyProof.Rows.All
import PySem.Syntax
import HandS.ForMost
import HandS.Exc
import HandS.TupLe
import HandS.TupAny
import HandS.TupMul
import HandS.Style
import HandS.IsInst
import HandS.Wide
import HandS.WordsExc
import HandS.StrMore
import HandS.RaiseMore
import HandS.Zip
import HandS.Walk
import HandS.HeadHook4
import HandS.HeadEnd
import HandS.Defaults
import HandS.Head0
import HandS.Head1
import HandS.Head2
import HandS.HeadHook1
import HandS.HeadHook2
import PySem.Challenge.RW_layersheld_k18_whole_digests_of_octets
set_option Elab.async false
set_option linter.all false
set_option maxRecDepth 100000
set_option maxHeartbeats 4000000
/-! Ly: a pure evaluator over trees. Values, the store, the terms, the evaluator. -/
namespace Ly
open PySem

/-- a value: scalars, tuples; lists, dicts and sets that nobody changes (as trees); an object that may change (by its number in the store); a def of the text; a built-in type -/
inductive D where
  | non | bl (b : Bool) | int (i : Int) | str (s : Str)
  | tup (xs : List D) | lst (xs : List D) | dct (kvs : List (D × D)) | set (xs : List D)
  | ref (n : Nat) | fn (x : Str) | ty (n : String)
instance : Inhabited D := ⟨.non⟩

/-! ### structural equality -/
mutual
def D.beq : D → D → Bool
  | .non, .non => true
  | .bl a, .bl b => a == b
  | .int a, .int b => a == b
  | .str a, .str b => a == b
  | .tup a, .tup b => D.beqs a b
  | .lst a, .lst b => D.beqs a b
  | .set a, .set b => D.beqs a b
  | .dct a, .dct b => D.beqp a b
  | .ref a, .ref b => a == b
  | .fn a, .fn b => a == b
  | .ty a, .ty b => a == b
  | _, _ => false
def D.beqs : List D → List D → Bool
  | [], [] => true
  | x :: xs, y :: ys => D.beq x y && D.beqs xs ys
  | _, _ => false
def D.beqp : List (D × D) → List (D × D) → Bool
  | [], [] => true
  | (k, v) :: xs, (l, w) :: ys => D.beq k l && (D.beq v w && D.beqp xs ys)
  | _, _ => false
end
mutual
theorem D.beq_iff : ∀ a b : D, D.beq a b = true ↔ a = b
  | .non, b => by cases b <;> simp [D.beq]
  | .bl x, b => by cases b <;> simp [D.beq]
  | .int x, b => by cases b <;> simp [D.beq]
  | .str x, b => by cases b <;> simp [D.beq]
  | .ref x, b => by cases b <;> simp [D.beq]
  | .fn x, b => by cases b <;> simp [D.beq]
  | .ty x, b => by cases b <;> simp [D.beq]
  | .tup x, b => by cases b <;> simp [D.beq, D.beqs_iff x]
  | .lst x, b => by cases b <;> simp [D.beq, D.beqs_iff x]
  | .set x, b => by cases b <;> simp [D.beq, D.beqs_iff x]
  | .dct x, b => by cases b <;> simp [D.beq, D.beqp_iff x]
theorem D.beqs_iff : ∀ a b : List D, D.beqs a b = true ↔ a = b
  | [], b => by cases b <;> simp [D.beqs]
  | x :: xs, b => by cases b <;> simp [D.beqs, D.beq_iff x, D.beqs_iff xs]
theorem D.beqp_iff : ∀ a b : List (D × D), D.beqp a b = true ↔ a = b
  | [], b => by cases b <;> simp [D.beqp]
  | (k, v) :: xs, b => by
    cases b with
    | nil => simp [D.beqp]
    | cons p ys => obtain ⟨l, w⟩ := p; simp [D.beqp, D.beq_iff k, D.beq_iff v, D.beqp_iff xs, and_assoc]
end
instance : DecidableEq D := fun a b => decidable_of_iff _ (D.beq_iff a b)
/-- what may stand in the store -/
inductive MO where
  | lst (xs : List D) | dct (kvs : List (D × D)) | ins (c : Str) (fs : List (Str × D)) | dead
  deriving DecidableEq
abbrev Sto := List MO
abbrev Env := List (Option D)

/-! ### Python's == -/
def b2n (b : Bool) : Int := if b then 1 else 0
mutual
def D.eqv : D → D → Bool
  | .non, .non => true
  | .bl a, .bl b => a == b
  | .bl a, .int j => b2n a == j
  | .int i, .bl b => i == b2n b
  | .int i, .int j => i == j
  | .str x, .str y => x == y
  | .tup xs, .tup ys => D.eqvs xs ys
  | .lst xs, .lst ys => D.eqvs xs ys
  | _, _ => false
def D.eqvs : List D → List D → Bool
  | [], [] => true
  | x :: xs, y :: ys => D.eqv x y && D.eqvs xs ys
  | _, _ => false
end
mutual
/-- data without objects, dicts, sets -/
def D.plain : D → Bool
  | .non => true | .bl _ => true | .int _ => true | .str _ => true
  | .tup xs => D.plains xs
  | .lst xs => D.plains xs
  | _ => false
def D.plains : List D → Bool
  | [] => true
  | x :: xs => D.plain x && D.plains xs
end
mutual
def D.depth : D → Nat
  | .tup xs => D.depths xs + 1
  | .lst xs => D.depths xs + 1
  | _ => 0
def D.depths : List D → Nat
  | [] => 0
  | x :: xs => max (D.depth x) (D.depths xs)
end
def eqOk (a b : D) : Bool := a.plain && b.plain && decide (min a.depth b.depth ≤ 60)

/-! ### order -/
def strLt (a b : Str) : Bool := decide (a.cps.toList < b.cps.toList)
mutual
/-- whether < of two values is told -/
def D.ltOk : D → D → Bool
  | .int _, .int _ => true
  | .str _, .str _ => true
  | .tup xs, .tup ys => D.ltOks xs ys
  | _, _ => false
def D.ltOks : List D → List D → Bool
  | x :: xs, y :: ys => x.plain && y.plain && (if D.eqv x y then D.ltOks xs ys else D.ltOk x y)
  | _, _ => true
end
mutual
def D.lt : D → D → Bool
  | .int i, .int j => decide (i < j)
  | .str x, .str y => strLt x y
  | .tup xs, .tup ys => D.lts xs ys
  | _, _ => false
def D.lts : List D → List D → Bool
  | [], [] => false
  | [], _ :: _ => true
  | _ :: _, [] => false
  | x :: xs, y :: ys => if D.eqv x y then D.lts xs ys else D.lt x y
end
def insD (x : D) : List D → List D
  | [] => [x]
  | y :: ys => if D.lt x y then x :: y :: ys else y :: insD x ys
/-- a stable sort -/
def sortD (xs : List D) : List D := xs.foldl (fun acc x => insD x acc) []
def sortOk (xs : List D) : Bool := xs.all fun x => xs.all fun y => D.ltOk x y && decide (min x.depth y.depth ≤ 60)

/-! ### results -/
inductive Re (α : Type) where
  | ok (a : α) (S : Sto) | exc (c : Str) (fs : List (Str × D)) (S : Sto) | bad
def Re.bind {α β : Type} (r : Re α) (f : α → Sto → Re β) : Re β :=
  match r with
  | .ok a S => f a S
  | .exc c fs S => .exc c fs S
  | .bad => .bad
def lift {α : Type} (o : Option α) (S : Sto) : Re α :=
  match o with
  | some a => .ok a S
  | none => .bad

/-! ### operators -/
inductive Bop where | add | sub | mul | fdiv | mod | pow
  deriving DecidableEq
inductive Cop where | eq | ne | lt | le | gt | ge | is_ | isnot | in_ | notin
  deriving DecidableEq
def line : Nat := 16777216
def mulOk (i j : Int) : Bool := decide (i.natAbs < 2 ^ 64) || decide (j.natAbs < 2 ^ 64) || decide (i.natAbs.log2 + j.natAbs.log2 < 1000000)
def divOk (j : Int) : Bool := decide (0 < j) && (decide (j < 1073741824) || decide (j.natAbs.log2 < 9000))
def powOk (i j : Int) : Bool := decide (0 ≤ j) && decide (j ≤ 1000) && decide (i.natAbs < 2 ^ 64)
/-- what stands at a value: an object's content as a tree -/
def view (S : Sto) : D → D
  | .ref n => match S[n]? with
    | some (.lst xs) => .lst xs
    | some (.dct kvs) => .dct kvs
    | _ => .ref n
  | d => d
def rep (xs : List D) (k : Int) : List D := (List.replicate k.toNat xs).flatten
def repS (s : Str) (k : Int) : Str := ⟨((List.replicate k.toNat s.cps.toList).flatten).toArray⟩
def binop : Bop → D → D → Option D
  | .add, .int i, .int j => some (.int (i + j))
  | .add, .str x, .str y => if x.length + y.length ≤ line then some (.str (x ++ y)) else none
  | .add, .tup xs, .tup ys => if xs.length + ys.length ≤ line then some (.tup (xs ++ ys)) else none
  | .add, .lst xs, .lst ys => if xs.length + ys.length ≤ line then some (.lst (xs ++ ys)) else none
  | .sub, .int i, .int j => some (.int (i - j))
  | .mul, .int i, .int j => if mulOk i j then some (.int (i * j)) else none
  | .mul, .tup xs, .int k => if 2 ≤ k ∧ k < 2 ^ 62 ∧ xs ≠ [] ∧ xs.length * k.toNat ≤ line then some (.tup (rep xs k)) else none
  | .mul, .lst xs, .int k => if k.natAbs < 2 ^ 62 ∧ xs.length * k.toNat ≤ line then some (.lst (rep xs k)) else none
  | .mul, .str s, .int k => if k.natAbs < 2 ^ 62 ∧ s.length * k.toNat ≤ line then some (.str (repS s k)) else none
  | .fdiv, .int i, .int j => if divOk j then some (.int (i / j)) else none
  | .mod, .int i, .int j => if 0 < j then some (.int (i % j)) else none
  | .pow, .int i, .int j => if powOk i j then some (.int (i ^ j.toNat)) else none
  | _, _, _ => none
def memD (x : D) (xs : List D) : Bool := xs.any fun y => D.eqv y x
def inOk (x : D) (xs : List D) : Bool := x.plain && D.plains xs && decide (x.depth ≤ 60)
/-- keys of dicts and sets: ints, texts, None, tuples of such -/
def D.isKey : D → Bool
  | .int _ => true | .str _ => true | .non => true
  | .tup xs => (D.tup xs).plain && noBl xs && decide ((D.tup xs).depth ≤ 8)
  | _ => false
where
  noBl : List D → Bool
    | [] => true
    | .bl _ :: _ => false
    | .lst _ :: _ => false
    | .tup ys :: r => noBl ys && noBl r
    | _ :: r => noBl r
def look (k : D) : List (D × D) → Option D
  | [] => none
  | (l, v) :: r => if l = k then some v else look k r
def put (k v : D) : List (D × D) → List (D × D)
  | [] => [(k, v)]
  | (l, w) :: r => if l = k then (l, v) :: r else (l, w) :: put k v r
def del (k : D) : List (D × D) → List (D × D)
  | [] => []
  | (l, w) :: r => if l = k then r else (l, w) :: del k r
def cmpop : Cop → D → D → Option Bool
  | .eq, a, b => if eqOk a b then some (D.eqv a b) else none
  | .ne, a, b => if eqOk a b then some (!D.eqv a b) else none
  | .lt, a, b => if D.ltOk a b && eqOk a b then some (D.lt a b) else none
  | .gt, .int i, .int j => some (decide (j < i))
  | .gt, .str i, .str j => some (strLt j i)
  | .le, .int i, .int j => some (decide (i ≤ j))
  | .ge, .int i, .int j => some (decide (j ≤ i))
  | .is_, a, .non => some (decide (a = .non))
  | .isnot, a, .non => some (!decide (a = .non))
  | .is_, a, .bl b => some (decide (a = .bl b))
  | .isnot, a, .bl b => some (!decide (a = .bl b))
  | .in_, x, .tup xs => if inOk x xs then some (memD x xs) else none
  | .notin, x, .tup xs => if inOk x xs then some (!memD x xs) else none
  | .in_, x, .lst xs => if inOk x xs then some (memD x xs) else none
  | .notin, x, .lst xs => if inOk x xs then some (!memD x xs) else none
  | .in_, x, .dct kvs => if x.isKey then some (look x kvs).isSome else none
  | .notin, x, .dct kvs => if x.isKey then some (!(look x kvs).isSome) else none
  | .in_, x, .set xs => if x.isKey then some (decide (x ∈ xs)) else none
  | .notin, x, .set xs => if x.isKey then some (!decide (x ∈ xs)) else none
  | .in_, .str x, .str y => if x.length = 1 then some (y.cps.toList.any fun c => x.cps.toList.head? == some c) else none
  | .notin, .str x, .str y => if x.length = 1 then some (!y.cps.toList.any fun c => x.cps.toList.head? == some c) else none
  | _, _, _ => none

/-! ### places and slices -/
def ixAt (n : Nat) (i : Int) : Option Nat := if 0 ≤ i then (if i < n then some i.toNat else none) else if -(n : Int) ≤ i then some (i + n).toNat else none
def atI {α : Type} (xs : List α) (i : Int) : Option α := (ixAt xs.length i).bind fun j => xs[j]?
def idx : D → D → Option D
  | .tup xs, .int i => atI xs i
  | .lst xs, .int i => atI xs i
  | .str s, .int i => if s.length ≤ line then (atI s.cps.toList i).map fun c => .str ⟨#[c]⟩ else none
  | .dct kvs, k => if k.isKey then look k kvs else none
  | _, _ => none
def sIx (n d : Nat) : Option Int → Nat
  | none => d
  | some v => if v < 0 then (v + n).toNat else min v.toNat n
def cut {α : Type} (xs : List α) (lo hi : Option Int) : List α := (xs.drop (sIx xs.length 0 lo)).take (sIx xs.length xs.length hi - sIx xs.length 0 lo)
def slice : D → Option Int → Option Int → Option D
  | .tup xs, lo, hi => some (.tup (cut xs lo hi))
  | .lst xs, lo, hi => some (.lst (cut xs lo hi))
  | .str s, lo, hi => if s.length ≤ line then some (.str ⟨(cut s.cps.toList lo hi).toArray⟩) else none
  | _, _, _ => none
def revD : D → Option D
  | .tup xs => some (.tup xs.reverse)
  | .lst xs => some (.lst xs.reverse)
  | _ => none

/-! ### what is walked -/
def items : D → Option (List D)
  | .tup xs => some xs
  | .lst xs => some xs
  | .str s => if s.length ≤ line then some (s.cps.toList.map fun c => .str ⟨#[c]⟩) else none
  | .dct kvs => some (kvs.map (·.1))
  | _ => none
def rangeD (i j : Int) : List D := (List.range (j - i).toNat).map fun (k : Nat) => .int (i + (k : Int))
def rangeN (i j : Int) : List D := (List.range (i - j).toNat).map fun (k : Nat) => .int (i + (k : Int) * (-1))
def intOk (i : Int) : Bool := decide (-(2 ^ 62) ≤ i) && decide (i < 2 ^ 62)
def rangeOf : List D → Option (List D)
  | [.int j] => if intOk j then some (rangeD 0 j) else none
  | [.int i, .int j] => if intOk i && intOk j then some (rangeD i j) else none
  | [.int i, .int j, .int c] => if intOk i && intOk j && decide (c = -1) then some (rangeN i j) else none
  | _ => none
def zipD : List D → List D → List D
  | x :: xs, y :: ys => .tup [x, y] :: zipD xs ys
  | _, _ => []
def enumD : Nat → List D → List D
  | _, [] => []
  | i, x :: xs => .tup [.int i, x] :: enumD (i + 1) xs

/-! ### built-in functions -/
inductive Bi where
  | len | tuple | list | isInt | isBool | isStr | isTuple | isList | int | all | any | sorted | abs | str | dict | set | sum | min | max
  | listItems | sortedItems | sumValues
  deriving DecidableEq
def allBl : List D → Option (List Bool)
  | [] => some []
  | .bl b :: r => (allBl r).map (b :: ·)
  | _ => none
def allInt : List D → Option (List Int)
  | [] => some []
  | .int i :: r => (allInt r).map (i :: ·)
  | _ => none
def pairs : List D → Option (List (D × D))
  | [] => some []
  | .tup [k, v] :: r => if k.isKey then (pairs r).map ((k, v) :: ·) else none
  | _ => none
def putAll (kvs : List (D × D)) (ps : List (D × D)) : List (D × D) := ps.foldl (fun m p => put p.1 p.2 m) kvs
def addSet (xs : List D) (x : D) : List D := if x ∈ xs then xs else xs ++ [x]
def itemsD (kvs : List (D × D)) : List D := kvs.map fun p => .tup [p.1, p.2]
def minD : List D → Option D
  | [] => none
  | x :: xs => some (xs.foldl (fun m y => if D.lt y m then y else m) x)
def maxD : List D → Option D
  | [] => none
  | x :: xs => some (xs.foldl (fun m y => if D.lt m y then y else m) x)
def isScalar : D → Bool
  | .non => true | .bl _ => true | .int _ => true | .str _ => true | .tup _ => true | .lst _ => true | .dct _ => true | .set _ => true
  | _ => false
def builtin : Bi → List D → Option D
  | .len, [.tup xs] => some (.int xs.length)
  | .len, [.lst xs] => some (.int xs.length)
  | .len, [.dct xs] => some (.int xs.length)
  | .len, [.set xs] => some (.int xs.length)
  | .len, [.str s] => if s.length ≤ line then some (.int s.length) else none
  | .tuple, [.tup xs] => some (.tup xs)
  | .tuple, [.lst xs] => some (.tup xs)
  | .list, [.tup xs] => some (.lst xs)
  | .list, [.lst xs] => some (.lst xs)
  | .list, [.dct kvs] => some (.lst (kvs.map (·.1)))
  | .isInt, [d] => if isScalar d then some (.bl (match d with | .int _ => true | .bl _ => true | _ => false)) else none
  | .isBool, [d] => if isScalar d then some (.bl (match d with | .bl _ => true | _ => false)) else none
  | .isStr, [d] => if isScalar d then some (.bl (match d with | .str _ => true | _ => false)) else none
  | .isTuple, [d] => if isScalar d then some (.bl (match d with | .tup _ => true | _ => false)) else none
  | .isList, [d] => if isScalar d then some (.bl (match d with | .lst _ => true | _ => false)) else none
  | .int, [.int i] => some (.int i)
  | .int, [.bl b] => some (.int (b2n b))
  | .all, [.lst xs] => (allBl xs).map fun bs => .bl (bs.all id)
  | .any, [.lst xs] => (allBl xs).map fun bs => .bl (bs.any id)
  | .sorted, [.lst xs] => if sortOk xs then some (.lst (sortD xs)) else none
  | .sorted, [.tup xs] => if sortOk xs then some (.lst (sortD xs)) else none
  | .sorted, [.set xs] => if sortOk xs then some (.lst (sortD xs)) else none
  | .sorted, [.dct kvs] => if sortOk (kvs.map (·.1)) then some (.lst (sortD (kvs.map (·.1)))) else none
  | .abs, [.int i] => some (.int (if i < 0 then -i else i))
  | .str, [.str s] => some (.str s)
  | .str, [.int i] => if i.natAbs.log2 < 1920 then some (.str (Str.ofString (toString i))) else none
  | .dict, [.lst xs] => (pairs xs).map fun ps => .dct (putAll [] ps)
  | .set, [.lst xs] => if xs.all D.isKey then some (.set (xs.foldl addSet [])) else none
  | .sum, [.lst xs] => (allInt xs).map fun ns => .int ns.sum
  | .min, [.lst xs] => if sortOk xs then minD xs else none
  | .max, [.lst xs] => if sortOk xs then maxD xs else none
  | .min, [.int i, .int j] => some (.int (if j < i then j else i))
  | .max, [.int i, .int j] => some (.int (if j > i then j else i))
  | .listItems, [.dct kvs] => some (.lst (itemsD kvs))
  | .sortedItems, [.dct kvs] => if sortOk (itemsD kvs) then some (.lst (sortD (itemsD kvs))) else none
  | .sumValues, [.dct kvs] => (allInt (kvs.map (·.2))).map fun ns => .int ns.sum
  | _, _ => none

/-! ### methods of built-in types -/
inductive Me where
  | get | index | count | join | startswith | upper
  deriving DecidableEq
def idxOf (x : D) : List D → Nat → Option Nat
  | [], _ => none
  | y :: ys, n => if D.eqv y x then some n else idxOf x ys (n + 1)
def natIdx (c : Nat) : List Nat → Nat → Option Nat
  | [], _ => none
  | y :: ys, n => if y = c then some n else natIdx c ys (n + 1)
def allStr : List D → Option (List Str)
  | [] => some []
  | .str i :: r => (allStr r).map (i :: ·)
  | _ => none
def meth : Me → D → List D → Option D
  | .get, .dct kvs, [k] => if k.isKey then some ((look k kvs).getD .non) else none
  | .get, .dct kvs, [k, d] => if k.isKey then some ((look k kvs).getD d) else none
  | .index, .str s, [.str x] => if x.length = 1 && decide (s.length ≤ line) then (natIdx (x.cps.getD 0 0) s.cps.toList 0).map (fun (n : Nat) => D.int (n : Int)) else none
  | _, _, _ => none

def meOk : Me → D → Bool
  | .index, .str _ => true
  | _, _ => false

/-! ### terms -/
inductive Tg where
  | nm (i : Nat) | tup (ts : List Tg)
/-- what is walked: a value, range(..), zip(a, b), enumerate(a), a.items(), a.values() -/
inductive Ik where | ex | range | zip | enum | items | values
  deriving DecidableEq
inductive Ex where
  | cst (d : D) | loc (i : Nat)
  | bin (o : Bop) (a b : Ex) | neg (a : Ex) | not_ (a : Ex)
  | cmp (o : Cop) (a b : Ex) | chain (o1 o2 : Cop) (a b c : Ex)
  | and_ (a b : Ex) | or_ (a b : Ex) | ite (c a b : Ex)
  | tup (es : List Ex) | lst (es : List Ex) | new (es : List Ex)
  | call (f : Str) (es : List Ex) | bi (b : Bi) (es : List Ex) | me (m : Me) (o : Ex) (es : List Ex)
  | idx (a i : Ex) | slc (a : Ex) (lo hi : Option Ex) | rev (a : Ex)
  | comp (vs : List Nat) (tg : Tg) (k : Ik) (es : List Ex) (c : Option Ex) (e : Ex)
inductive St where
  | asg (t : Tg) (e : Ex) | ex (e : Ex) | ret (e : Ex) | retN | pass | brk | cnt | never
  | app (i : Nat) (e : Ex) | setR (o k v : Ex)
  | ite (c : Ex) (a b : List St) | for_ (tg : Tg) (k : Ik) (es : List Ex) (b : List St) | while_ (c : Ex) (b : List St)

/-! ### the evaluator -/
mutual
def Tg.put : Tg → D → Env → Option Env
  | .nm i, d, en => some (en.set i (some d))
  | .tup ts, .tup ds, en => Tg.puts ts ds en
  | .tup _, _, _ => none
def Tg.puts : List Tg → List D → Env → Option Env
  | [], [], en => some en
  | t :: ts, d :: ds, en => (Tg.put t d en).bind fun en => Tg.puts ts ds en
  | _, _, _ => none
end
def wipeE (en : Env) : List Nat → Env
  | [] => en
  | v :: vs => (wipeE en vs).set v none
/-- what a walk gives, from the values of its parts -/
def walk (S : Sto) : Ik → List D → Option (List D)
  | .ex, [d] => items (view S d)
  | .range, ds => (rangeOf ds).bind fun xs => if xs.length ≤ line then some xs else none
  | .zip, [a, b] => match view S a, view S b with
    | .lst xs, .lst ys => some (zipD xs ys)
    | .tup xs, .tup ys => some (zipD xs ys)
    | _, _ => none
  | .enum, [a] => match view S a with
    | .lst xs => some (enumD 0 xs)
    | _ => none
  | .items, [a] => match view S a with
    | .dct kvs => some (itemsD kvs)
    | _ => none
  | .values, [a] => match view S a with
    | .dct kvs => some (kvs.map (·.2))
    | _ => none
  | _, _ => none
/-- the objects that are walked, as they stand -/
def watch (S : Sto) : List D → List (Nat × Option MO)
  | [] => []
  | .ref n :: r => (n, S[n]?) :: watch S r
  | _ :: r => watch S r
def still (S : Sto) (w : List (Nat × Option MO)) : Bool := w.all fun p => decide (S[p.1]? = p.2)
def compLoop (f : D → Sto → Re (Option D)) (w : List (Nat × Option MO)) : List D → List D → Sto → Re D
  | [], acc, S => .ok (.lst acc) S
  | x :: xs, acc, S => match f x S with
    | .ok r S' => if still S' w then compLoop f w xs (match r with | some y => acc ++ [y] | none => acc) S' else .bad
    | _ => .bad
inductive Fl where
  | nx | ret (d : D) | brk | cnt
def forLoop (f : D → Env → Sto → Re (Fl × Env)) (w : List (Nat × Option MO)) : List D → Env → Sto → Re (Fl × Env)
  | [], en, S => .ok (.nx, en) S
  | x :: xs, en, S => match f x en S with
    | .ok (.nx, en') S' => if still S' w then forLoop f w xs en' S' else .bad
    | .ok (.cnt, en') S' => if still S' w then forLoop f w xs en' S' else .bad
    | .ok (.brk, en') S' => .ok (.nx, en') S'
    | .ok (.ret d, en') S' => .ok (.ret d, en') S'
    | .exc c fs S' => .exc c fs S'
    | .bad => .bad
def whileLoop (c : Env → Sto → Re D) (f : Env → Sto → Re (Fl × Env)) : Nat → Env → Sto → Re (Fl × Env)
  | 0, _, _ => .bad
  | n + 1, en, S => match c en S with
    | .ok (.bl false) S' => .ok (.nx, en) S'
    | .ok (.bl true) S' => match f en S' with
      | .ok (.nx, en') S'' => whileLoop c f n en' S''
      | .ok (.cnt, en') S'' => whileLoop c f n en' S''
      | .ok (.brk, en') S'' => .ok (.nx, en') S''
      | .ok (.ret d, en') S'' => .ok (.ret d, en') S''
      | .exc c fs S'' => .exc c fs S''
      | .bad => .bad
    | .exc c fs S' => .exc c fs S'
    | _ => .bad
abbrev CF := Str → List D → Sto → Re D
mutual
def evE (cf : CF) : Ex → Env → Sto → Re D
  | .cst d, _, S => .ok d S
  | .loc i, en, S => match en[i]? with
    | some (some d) => .ok d S
    | _ => .bad
  | .bin o a b, en, S => (evE cf a en S).bind fun x S => (evE cf b en S).bind fun y S => lift (binop o (view S x) (view S y)) S
  | .neg a, en, S => (evE cf a en S).bind fun x S => match x with
    | .int i => .ok (.int (-i)) S
    | _ => .bad
  | .not_ a, en, S => (evE cf a en S).bind fun x S => match x with
    | .bl b => .ok (.bl (!b)) S
    | _ => .bad
  | .cmp o a b, en, S => (evE cf a en S).bind fun x S => (evE cf b en S).bind fun y S => lift ((cmpop o (view S x) (view S y)).map .bl) S
  | .chain o1 o2 a b c, en, S => (evE cf a en S).bind fun x S => (evE cf b en S).bind fun y S => match cmpop o1 (view S x) (view S y) with
    | some true => (evE cf c en S).bind fun z S => lift ((cmpop o2 (view S y) (view S z)).map .bl) S
    | some false => .ok (.bl false) S
    | none => .bad
  | .and_ a b, en, S => (evE cf a en S).bind fun x S => match x with
    | .bl true => evE cf b en S
    | .bl false => .ok (.bl false) S
    | _ => .bad
  | .or_ a b, en, S => (evE cf a en S).bind fun x S => match x with
    | .bl true => .ok (.bl true) S
    | .bl false => evE cf b en S
    | _ => .bad
  | .ite c a b, en, S => (evE cf c en S).bind fun x S => match x with
    | .bl true => evE cf a en S
    | .bl false => evE cf b en S
    | _ => .bad
  | .tup es, en, S => (evEs cf es en S).bind fun xs S => if xs.length ≤ line then .ok (.tup xs) S else .bad
  | .lst es, en, S => (evEs cf es en S).bind fun xs S => if xs.length ≤ line then .ok (.lst xs) S else .bad
  | .new es, en, S => (evEs cf es en S).bind fun xs S => if xs.length ≤ line then .ok (.ref S.length) (S ++ [.lst xs]) else .bad
  | .call f es, en, S => (evEs cf es en S).bind fun xs S => cf f xs S
  | .bi b es, en, S => (evEs cf es en S).bind fun xs S => lift (builtin b (xs.map (view S))) S
  | .me m o es, en, S => (evE cf o en S).bind fun x S => if meOk m (view S x) then (evEs cf es en S).bind fun xs S => lift (meth m (view S x) xs) S else .bad
  | .idx a i, en, S => (evE cf a en S).bind fun x S => (evE cf i en S).bind fun y S => lift (idx (view S x) y) S
  | .slc a lo hi, en, S => (evE cf a en S).bind fun x S => (evO cf lo en S).bind fun l S => (evO cf hi en S).bind fun h S => lift (slice (view S x) l h) S
  | .rev a, en, S => (evE cf a en S).bind fun x S => lift (revD (view S x)) S
  | .comp vs tg k es c e, en, S => (evEs cf es en S).bind fun ds S => match walk S k ds with
    | none => .bad
    | some xs => if xs.length ≤ line then compLoop (fun x S => match tg.put x (wipeE en vs) with
      | none => .bad
      | some en' => (evC cf c en' S).bind fun b S => if b then (evE cf e en' S).bind fun y S => .ok (some y) S else .ok none S) (watch S ds) xs [] S else .bad
def evEs (cf : CF) : List Ex → Env → Sto → Re (List D)
  | [], _, S => .ok [] S
  | e :: es, en, S => (evE cf e en S).bind fun x S => (evEs cf es en S).bind fun xs S => .ok (x :: xs) S
def evO (cf : CF) : Option Ex → Env → Sto → Re (Option Int)
  | none, _, S => .ok none S
  | some e, en, S => (evE cf e en S).bind fun x S => match x with
    | .int i => .ok (some i) S
    | _ => .bad
def evC (cf : CF) : Option Ex → Env → Sto → Re Bool
  | none, _, S => .ok true S
  | some e, en, S => (evE cf e en S).bind fun x S => match x with
    | .bl b => .ok b S
    | _ => .bad
end
/-- o[k] = v of an object -/
def setRef (S : Sto) : D → D → D → Option Sto
  | .ref n, k, v => match S[n]?, k with
    | some (.lst xs), .int i => (ixAt xs.length i).map fun j => S.set n (.lst (xs.set j v))
    | _, _ => none
  | _, _, _ => none
def fuel : Nat := 1000000000000
mutual
def evS (cf : CF) : St → Env → Sto → Re (Fl × Env)
  | .asg t e, en, S => (evE cf e en S).bind fun x S => match t.put x en with
    | some en' => .ok (.nx, en') S
    | none => .bad
  | .ex e, en, S => (evE cf e en S).bind fun _ S => .ok (.nx, en) S
  | .ret e, en, S => (evE cf e en S).bind fun x S => .ok (.ret x, en) S
  | .retN, en, S => .ok (.ret .non, en) S
  | .pass, en, S => .ok (.nx, en) S
  | .brk, en, S => .ok (.brk, en) S
  | .cnt, en, S => .ok (.cnt, en) S
  | .never, _, _ => .bad
  | .app i e, en, S => match en[i]? with
    | some (some (.lst xs)) => (evE cf e en S).bind fun x S => if xs.length < line then .ok (.nx, en.set i (some (.lst (xs ++ [x])))) S else .bad
    | _ => .bad
  | .setR o k v, en, S => (evE cf v en S).bind fun z S => (evE cf o en S).bind fun x S => (evE cf k en S).bind fun y S => match setRef S x y z with
    | some S' => .ok (.nx, en) S'
    | none => .bad
  | .ite c a b, en, S => (evE cf c en S).bind fun x S => match x with
    | .bl true => evSs cf a en S
    | .bl false => evSs cf b en S
    | _ => .bad
  | .for_ tg k es b, en, S => (evEs cf es en S).bind fun ds S => match walk S k ds with
    | none => .bad
    | some xs => forLoop (fun x en S => match tg.put x en with
      | none => .bad
      | some en' => evSs cf b en' S) (watch S ds) xs en S
  | .while_ c b, en, S => whileLoop (fun en S => evE cf c en S) (fun en S => evSs cf b en S) fuel en S
def evSs (cf : CF) : List St → Env → Sto → Re (Fl × Env)
  | [], en, S => .ok (.nx, en) S
  | s :: r, en, S => (evS cf s en S).bind fun q S => match q with
    | (.nx, en') => evSs cf r en' S
    | (f, en') => .ok (f, en') S
end

/-- a def: how many parameters, how many slots, its body -/
structure Fn where
  np : Nat
  ns : Nat
  body : List St
abbrev Prog := List (Str × Fn)
def callP (P : Prog) : Nat → CF
  | 0, _, _, _ => .bad
  | k + 1, f, xs, S => match P.lookup f with
    | none => .bad
    | some fn => if xs.length = fn.np then
        match evSs (callP P k) fn.body (xs.map some ++ List.replicate (fn.ns - fn.np) none) S with
        | .ok (.ret d, _) S' => .ok d S'
        | .ok (.nx, _) S' => .ok .non S'
        | .exc c fs S' => .exc c fs S'
        | _ => .bad
      else .bad
end Ly
/-! Ly: how the trees stand in the heap. -/
namespace Ly
open PySem PySem.Spec PyProof.Rows L2

theorem line_eq : line = sizeLine := by rw [sizeLine_eq]; rfl

/-- the places of the store's objects, the addresses that may change, the abstract heap -/
structure Wd where
  ρ : List Addr
  F : Addr → Prop
  H : Hp

section
variable (K : PySem.W.Frag) (mg : Str → Option Value)
def KLst (a : Addr) (xs : List V) : Prop := ∃ (o : Obj) (its : Array Value) (n : Nat), K.lookup a = some o ∧ o.cls = .type "list" ∧ o.dict = none ∧ o.data = .seq its n ∧ its.size ≤ sizeLine ∧ Vals xs its.toList
def KTup (a : Addr) (xs : List V) : Prop := ∃ (o : Obj) (its : Array Value) (n : Nat), K.lookup a = some o ∧ o.cls = .type "tuple" ∧ o.data = .seq its n ∧ its.size ≤ sizeLine ∧ Vals xs its.toList
/-- a list that nobody changes; a tuple -/
def LAt (W : Wd) (a : Addr) (xs : List V) : Prop := (Rd W.H a (.lst xs) ∧ ¬ W.F a) ∨ KLst K a xs
def TAt (W : Wd) (a : Addr) (xs : List V) : Prop := (Rd W.H a (.tup xs) ∧ ¬ W.F a) ∨ KTup K a xs
mutual
inductive RepD (W : Wd) : D → V → Prop
  | non : RepD W .non .non
  | bl (b : Bool) : RepD W (.bl b) (.bl b)
  | int (i : Int) : RepD W (.int i) (.int i)
  | str (s : Str) : RepD W (.str s) (.str s)
  | ty (n : String) : RepD W (.ty n) (.ty n)
  | tup {a : Addr} {vs : List V} {xs : List D} : TAt K W a vs → RepDs W xs vs → RepD W (.tup xs) (.ref a)
  | lst {a : Addr} {vs : List V} {xs : List D} : LAt K W a vs → RepDs W xs vs → RepD W (.lst xs) (.ref a)
  | ref {n : Nat} {a : Addr} : W.ρ[n]? = some a → RepD W (.ref n) (.ref a)
  | fn {x : Str} {a : Addr} : mg x = some (.ref a) → RepD W (.fn x) (.ref a)
inductive RepDs (W : Wd) : List D → List V → Prop
  | nil : RepDs W [] []
  | cons {d : D} {v : V} {ds : List D} {vs : List V} : RepD W d v → RepDs W ds vs → RepDs W (d :: ds) (v :: vs)
end
/-- an object of the store -/
def RepO (W : Wd) (a : Addr) : MO → Prop
  | .lst xs => ∃ vs, W.H a = some (.lst vs) ∧ RepDs K mg W xs vs
  | .dct _ => False
  | .ins _ _ => False
  | .dead => True
structure Rep (W : Wd) (S : Sto) : Prop where
  len : W.ρ.length = S.length
  nd : W.ρ.Nodup
  sub : ∀ a ∈ W.ρ, W.F a
  dom : ∀ a, W.F a → W.H a ≠ none
  obj : ∀ (n : Nat) (mo : MO) (a : Addr), S[n]? = some mo → W.ρ[n]? = some a → RepO K mg W a mo
/-- a value, or a list of the def's own that it may still change -/
inductive RepB (W : Wd) : D → V → Prop
  | of {d : D} {v : V} : RepD K mg W d v → RepB W d v
  | own {a : Addr} {vs : List V} {xs : List D} : W.H a = some (.lst vs) → a ∉ W.ρ → RepDs K mg W xs vs → RepB W (.lst xs) (.ref a)
inductive RepBs (W : Wd) : List D → List V → Prop
  | nil : RepBs W [] []
  | cons {d : D} {v : V} {ds : List D} {vs : List V} : RepB K mg W d v → RepBs W ds vs → RepBs W (d :: ds) (v :: vs)
end

/-- what goes on: nothing but the store's objects changed; what is new is new -/
structure Ext (W W' : Wd) : Prop where
  keep : ∀ a o, W.H a = some o → a ∉ W.ρ → W'.H a = some o
  pre : W.ρ <+: W'.ρ
  fsub : ∀ a, W.F a → W'.F a
  fnew : ∀ a, W'.F a → W.F a ∨ W.H a = none
  dom : ∀ a, W.H a ≠ none → W'.H a ≠ none
  rnew : ∀ a, a ∈ W'.ρ → a ∈ W.ρ ∨ W.H a = none

section
variable {K : PySem.W.Frag} {mg : Str → Option Value} {W W' W'' : Wd} {S S' : Sto} {d : D} {v : V} {ds : List D} {vs : List V} {a : Addr}

theorem Ext.refl (W : Wd) : Ext W W := ⟨fun _ _ h _ => h, List.prefix_refl _, fun _ h => h, fun _ h => .inl h, fun _ h => h, fun _ h => .inl h⟩
theorem Ext.trans (x : Ext W W') (y : Ext W' W'') : Ext W W'' := by
  refine ⟨fun a o h n => y.keep a o (x.keep a o h n) fun hm => ?_, x.pre.trans y.pre, fun a h => y.fsub a (x.fsub a h), fun a h => ?_, fun a h => y.dom a (x.dom a h), fun a h => ?_⟩
  · rcases x.rnew a hm with z | z
    · exact n z
    · rw [h] at z; cases z
  · rcases y.fnew a h with z | z
    · exact x.fnew a z
    · refine .inr ?_
      cases q : W.H a with
      | none => rfl
      | some o => exact absurd z (x.dom a (by rw [q]; simp))
  · rcases y.rnew a h with z | z
    · exact x.rnew a z
    · refine .inr ?_
      cases q : W.H a with
      | none => rfl
      | some o => exact absurd z (x.dom a (by rw [q]; simp))

theorem Ext.rd {u : HO} (x : Ext W W') (hs : ∀ a ∈ W.ρ, W.F a) (h : Rd W.H a u ∧ ¬ W.F a) : Rd W'.H a u ∧ ¬ W'.F a := by
  obtain ⟨h, n⟩ := h
  have nr : a ∉ W.ρ := fun z => n (hs a z)
  refine ⟨?_, fun z => ?_⟩
  · rcases h with h | ⟨o, h⟩
    · exact .inl (x.keep _ _ h nr)
    · exact .inr ⟨o, x.keep _ _ h nr⟩
  · rcases x.fnew a z with z | z
    · exact n z
    · rcases h with h | ⟨o, h⟩ <;> (rw [h] at z; cases z)
theorem Ext.tat (x : Ext W W') (hs : ∀ a ∈ W.ρ, W.F a) (h : TAt K W a vs) : TAt K W' a vs := h.elim (fun h => .inl (x.rd hs h)) .inr
theorem Ext.lat (x : Ext W W') (hs : ∀ a ∈ W.ρ, W.F a) (h : LAt K W a vs) : LAt K W' a vs := h.elim (fun h => .inl (x.rd hs h)) .inr
theorem Ext.ix {n : Nat} (x : Ext W W') (h : W.ρ[n]? = some a) : W'.ρ[n]? = some a := by
  obtain ⟨t, e⟩ := x.pre
  rw [← e, List.getElem?_append_left (List.getElem?_eq_some_iff.mp h).1]
  exact h
mutual
theorem RepD.ext (x : Ext W W') (hs : ∀ a ∈ W.ρ, W.F a) : ∀ {d : D} {v : V}, RepD K mg W d v → RepD K mg W' d v
  | _, _, .non => .non
  | _, _, .bl b => .bl b
  | _, _, .int i => .int i
  | _, _, .str s => .str s
  | _, _, .ty n => .ty n
  | _, _, .tup h r => .tup (x.tat hs h) (RepDs.ext x hs r)
  | _, _, .lst h r => .lst (x.lat hs h) (RepDs.ext x hs r)
  | _, _, .ref h => .ref (x.ix h)
  | _, _, .fn h => .fn h
theorem RepDs.ext (x : Ext W W') (hs : ∀ a ∈ W.ρ, W.F a) : ∀ {d : List D} {v : List V}, RepDs K mg W d v → RepDs K mg W' d v
  | _, _, .nil => .nil
  | _, _, .cons h r => .cons (RepD.ext x hs h) (RepDs.ext x hs r)
end
theorem RepB.ext (x : Ext W W') (hs : ∀ a ∈ W.ρ, W.F a) (h : RepB K mg W d v) : RepB K mg W' d v := by
  cases h with
  | of h => exact .of (h.ext x hs)
  | own h n r =>
    refine .own (x.keep _ _ h n) (fun z => ?_) (r.ext x hs)
    rcases x.rnew _ z with z | z
    · exact n z
    · rw [h] at z; cases z
theorem RepDs.length : ∀ {ds : List D} {vs : List V}, RepDs K mg W ds vs → ds.length = vs.length
  | _, _, .nil => rfl
  | _, _, .cons _ r => by simp [RepDs.length r]
theorem RepBs.length : ∀ {ds : List D} {vs : List V}, RepBs K mg W ds vs → ds.length = vs.length
  | _, _, .nil => rfl
  | _, _, .cons _ r => by simp [RepBs.length r]
theorem RepDs.bs : ∀ {ds : List D} {vs : List V}, RepDs K mg W ds vs → RepBs K mg W ds vs
  | _, _, .nil => .nil
  | _, _, .cons h r => .cons (.of h) (RepDs.bs r)
theorem RepDs.append : ∀ {ds es : List D} {vs ws : List V}, RepDs K mg W ds vs → RepDs K mg W es ws → RepDs K mg W (ds ++ es) (vs ++ ws)
  | _, _, _, _, .nil, s => s
  | _, _, _, _, .cons h r, s => .cons h (RepDs.append r s)
theorem RepDs.get : ∀ {ds : List D} {vs : List V} {i : Nat} {d : D}, RepDs K mg W ds vs → ds[i]? = some d → ∃ v, vs[i]? = some v ∧ RepD K mg W d v
  | _, _, 0, _, .cons h _, e => by simp at e; subst e; exact ⟨_, rfl, h⟩
  | _, _, i + 1, _, .cons _ r, e => by
    obtain ⟨v, h1, h2⟩ := RepDs.get (i := i) r (by simpa using e)
    exact ⟨v, by simpa using h1, h2⟩
theorem RepDs.get' : ∀ {ds : List D} {vs : List V} {i : Nat} {v : V}, RepDs K mg W ds vs → vs[i]? = some v → ∃ d, ds[i]? = some d ∧ RepD K mg W d v
  | _, _, 0, _, .cons h _, e => by simp at e; subst e; exact ⟨_, rfl, h⟩
  | _, _, i + 1, _, .cons _ r, e => by
    obtain ⟨v, h1, h2⟩ := RepDs.get' (i := i) r (by simpa using e)
    exact ⟨v, by simpa using h1, h2⟩
theorem RepDs.set {x : D} {u : V} (h0 : RepD K mg W x u) : ∀ {ds : List D} {vs : List V} (i : Nat), RepDs K mg W ds vs → RepDs K mg W (ds.set i x) (vs.set i u)
  | _, _, _, .nil => .nil
  | _, _, 0, .cons _ r => .cons h0 r
  | _, _, i + 1, .cons h r => .cons h (RepDs.set h0 i r)
theorem RepDs.drop : ∀ {ds : List D} {vs : List V} (n : Nat), RepDs K mg W ds vs → RepDs K mg W (ds.drop n) (vs.drop n)
  | _, _, 0, r => r
  | _, _, _ + 1, .nil => .nil
  | _, _, n + 1, .cons _ r => RepDs.drop n r
theorem RepDs.take : ∀ {ds : List D} {vs : List V} (n : Nat), RepDs K mg W ds vs → RepDs K mg W (ds.take n) (vs.take n)
  | _, _, 0, _ => .nil
  | _, _, _ + 1, .nil => .nil
  | _, _, n + 1, .cons h r => .cons h (RepDs.take n r)
theorem RepDs.reverse {ds : List D} {vs : List V} (h : RepDs K mg W ds vs) : RepDs K mg W ds.reverse vs.reverse := by
  induction ds generalizing vs with
  | nil => cases h; exact .nil
  | cons x xs ih =>
    cases h with
    | cons h r => rw [List.reverse_cons, List.reverse_cons]; exact (ih r).append (.cons h .nil)
theorem RepDs.rep {ds : List D} {vs : List V} (h : RepDs K mg W ds vs) : ∀ k : Nat, RepDs K mg W (List.replicate k ds).flatten (List.replicate k vs).flatten
  | 0 => .nil
  | k + 1 => by rw [List.replicate_succ, List.replicate_succ, List.flatten_cons, List.flatten_cons]; exact h.append (RepDs.rep h k)

/-! ### reading a value -/
theorem RepD.int_inv {i : Int} (h : RepD K mg W (.int i) v) : v = .int i := by cases h; rfl
theorem RepD.bl_inv {b : Bool} (h : RepD K mg W (.bl b) v) : v = .bl b := by cases h; rfl
theorem RepD.str_inv {s : Str} (h : RepD K mg W (.str s) v) : v = .str s := by cases h; rfl
theorem RepD.non_inv (h : RepD K mg W .non v) : v = .non := by cases h; rfl
theorem RepB.int_inv {i : Int} (h : RepB K mg W (.int i) v) : v = .int i := by cases h with | of h => exact h.int_inv
theorem RepB.bl_inv {b : Bool} (h : RepB K mg W (.bl b) v) : v = .bl b := by cases h with | of h => exact h.bl_inv
theorem RepB.str_inv {s : Str} (h : RepB K mg W (.str s) v) : v = .str s := by cases h with | of h => exact h.str_inv
theorem RepB.non_inv (h : RepB K mg W .non v) : v = .non := by cases h with | of h => exact h.non_inv
theorem LAt.sq (h : LAt K W a vs) : SqL K W.H a vs := h.elim (fun h => .inl h.1) .inr
theorem TAt.sq (h : TAt K W a vs) : SqT K W.H a vs := h.elim (fun h => .inl h.1) .inr
theorem RepB.tup_inv {xs : List D} (h : RepB K mg W (.tup xs) v) : ∃ a vs, v = .ref a ∧ TAt K W a vs ∧ RepDs K mg W xs vs := by
  cases h with
  | of h => cases h with | tup h r => exact ⟨_, _, rfl, h, r⟩
/-- what stands at a value that is walked, an object of the store too -/
theorem view_lst {xs : List D} (R : Rep K mg W S) (h : RepB K mg W d v) (e : view S d = .lst xs) : ∃ a vs, v = .ref a ∧ SqL K W.H a vs ∧ RepDs K mg W xs vs := by
  cases h with
  | own h n r => cases (show D.lst _ = D.lst _ from e); exact ⟨_, _, rfl, .inl (.inl h), r⟩
  | of h =>
    cases h with
    | lst h r => cases (show D.lst _ = D.lst _ from e); exact ⟨_, _, rfl, h.sq, r⟩
    | ref h =>
      rename_i n a
      have e : (match S[n]? with | some (.lst xs) => D.lst xs | some (.dct kvs) => .dct kvs | _ => .ref n) = .lst xs := e
      split at e
      · rename_i ys q
        cases e
        obtain ⟨vs, h1, h2⟩ := R.obj n _ a q h
        exact ⟨a, vs, rfl, .inl (.inl h1), h2⟩
      · cases e
      · cases e
    | _ => cases e
end
end Ly
/-! Ly: == of trees. -/
namespace Ly
open PySem PySem.Spec PyProof.Rows L2 PySem.SeqAt

section
variable (K : PySem.W.Frag) (mg : Str → Option Value)
/-- what stands at a value, to be read -/
def At (W : Wd) : D → V → Prop
  | .non, x => x = .non
  | .bl b, x => x = .bl b
  | .int i, x => x = .int i
  | .str s, x => x = .str s
  | .ty n, x => x = .ty n
  | .tup xs, x => ∃ a vs, x = .ref a ∧ TAt K W a vs ∧ RepDs K mg W xs vs
  | .lst xs, x => ∃ a vs, x = .ref a ∧ SqL K W.H a vs ∧ RepDs K mg W xs vs
  | .fn f, x => ∃ a, x = .ref a ∧ mg f = some (.ref a)
  | .ref n, x => ∃ a, x = .ref a ∧ W.ρ[n]? = some a
  | .dct _, _ => False
  | .set _, _ => False
end
section
variable {K : PySem.W.Frag} {mg : Str → Option Value} {W : Wd} {S : Sto} {d : D} {v : V}
def notRef : D → Bool
  | .ref _ => false
  | _ => true
theorem RepD.at' (h : RepD K mg W d v) : At K mg W d v := by
  cases h with
  | non => rfl
  | bl => rfl
  | int => rfl
  | str => rfl
  | ty => rfl
  | tup h r => exact ⟨_, _, rfl, h, r⟩
  | lst h r => exact ⟨_, _, rfl, h.sq, r⟩
  | fn h => exact ⟨_, rfl, h⟩
  | ref h => exact ⟨_, rfl, h⟩
theorem RepD.at (h : RepD K mg W d v) (n : notRef d = true) : At K mg W d v := h.at'
theorem view_at (R : Rep K mg W S) (h : RepB K mg W d v) : At K mg W (view S d) v := by
  cases h with
  | own h _ r => exact ⟨_, _, rfl, .inl (.inl h), r⟩
  | of h =>
    cases d with
    | ref m =>
      cases h with
      | ref h =>
        rename_i a
        cases e : S[m]? with
        | none => rw [show view S (.ref m) = .ref m from by simp [view, e]]; exact ⟨a, rfl, h⟩
        | some mo =>
          have q := R.obj m mo a e h
          cases mo with
          | lst xs =>
            obtain ⟨vs, h1, h2⟩ := q
            rw [show view S (.ref m) = .lst xs from by simp [view, e]]
            exact ⟨a, vs, rfl, .inl (.inl h1), h2⟩
          | dct kvs => exact q.elim
          | ins c fs => exact q.elim
          | dead => rw [show view S (.ref m) = .ref m from by simp [view, e]]; exact ⟨a, rfl, h⟩
    | _ => exact h.at'
end

theorem eqv_seq_le (a b : Nat) : a ≤ b → a ≤ b := fun h => h
def pairD (xs ys : List D) (j : Nat) : Bool := match xs[j]?, ys[j]? with
  | some x, some y => D.eqv x y
  | _, _ => false
theorem pairD_succ (x y : D) (xs ys : List D) (j : Nat) : pairD (x :: xs) (y :: ys) (j + 1) = pairD xs ys j := by simp [pairD]
theorem range_all_succ (n : Nat) (p : Nat → Bool) : (List.range (n + 1)).all p = (p 0 && (List.range n).all fun j => p (j + 1)) := by
  rw [List.range_succ_eq_map, List.all_cons, List.all_map]; rfl
theorem eqvs_eq : ∀ xs ys : List D, ((List.range (min xs.length ys.length)).all (pairD xs ys) && xs.length == ys.length) = D.eqvs xs ys
  | [], [] => rfl
  | [], _ :: _ => by simp [D.eqvs]
  | _ :: _, [] => by simp [D.eqvs]
  | x :: xs, y :: ys => by
    have ih := eqvs_eq xs ys
    rw [D.eqvs, ← ih, List.length_cons, List.length_cons, Nat.succ_min_succ, range_all_succ]
    have e : (fun j => pairD (x :: xs) (y :: ys) (j + 1)) = pairD xs ys := by funext j; exact pairD_succ x y xs ys j
    rw [e]
    have e0 : pairD (x :: xs) (y :: ys) 0 = D.eqv x y := rfl
    rw [e0, Bool.and_assoc]
    have e1 : (xs.length + 1 == ys.length + 1) = (xs.length == ys.length) := by simp
    rw [e1]
theorem eqvs_same {xs ys : List D} (h : xs.length = ys.length) : (List.range xs.length).all (pairD xs ys) = D.eqvs xs ys := by
  rw [← eqvs_eq, ← h, Nat.min_self]; simp
theorem eqvs_other {xs ys : List D} (h : xs.length ≠ ys.length) : D.eqvs xs ys = false := by
  rw [← eqvs_eq]; simp [h]
mutual
theorem eqv_refl : ∀ d : D, d.plain = true → D.eqv d d = true
  | .non, _ => rfl
  | .bl b, _ => by simp [D.eqv]
  | .int b, _ => by simp [D.eqv]
  | .str b, _ => by simp [D.eqv]
  | .tup xs, h => by rw [D.eqv]; exact eqvs_refl xs h
  | .lst xs, h => by rw [D.eqv]; exact eqvs_refl xs h
  | .dct _, h => by cases h
  | .set _, h => by cases h
  | .ref _, h => by cases h
  | .fn _, h => by cases h
  | .ty _, h => by cases h
theorem eqvs_refl : ∀ ds : List D, D.plains ds = true → D.eqvs ds ds = true
  | [], _ => rfl
  | x :: xs, h => by
    rw [D.plains, Bool.and_eq_true] at h
    rw [D.eqvs, eqv_refl x h.1, eqvs_refl xs h.2]; rfl
end

section
variable {X : Cx} {pins : List (Addr × Obj)} {σ : L2.St} {s : Shared} {mg : Str → Option Value} {W : Wd}
theorem tupIs {h : Heap} {a : Addr} {its : Array Value} (x : IsTup h a its) : h.IsTuple a its := x
theorem Inv.lst_tup (I : Inv X pins σ W.H s) {a : Addr} {vs ws : List V} (h1 : SqL X.K W.H a vs) (h2 : SqT X.K W.H a ws) : False := by
  obtain ⟨i1, _, ⟨o, n, e, c, _, _⟩, _⟩ := I.list h1
  obtain ⟨i2, _, ⟨o2, e2, c2, _⟩, _⟩ := I.tuple h2
  rw [e] at e2; cases e2
  rw [c] at c2
  exact absurd c2 (by decide +kernel)
mutual
/-- a value tells its tree -/
theorem rep_det (I : Inv X pins σ W.H s) : ∀ (a b : D) (x : V), At X.K mg W a x → At X.K mg W b x → a.plain = true → b.plain = true → a = b
  | .non, b, x, h1, h2, _, hb => by obtain rfl := h1; cases b <;> first | rfl | (cases h2; done) | (obtain ⟨_, _, h, _⟩ := h2; cases h) | (cases hb; done)
  | .bl _, b, x, h1, h2, _, hb => by obtain rfl := h1; cases b <;> first | (cases h2; rfl) | (cases h2; done) | (obtain ⟨_, _, h, _⟩ := h2; cases h) | (cases hb; done)
  | .int _, b, x, h1, h2, _, hb => by obtain rfl := h1; cases b <;> first | (cases h2; rfl) | (cases h2; done) | (obtain ⟨_, _, h, _⟩ := h2; cases h) | (cases hb; done)
  | .str _, b, x, h1, h2, _, hb => by obtain rfl := h1; cases b <;> first | (cases h2; rfl) | (cases h2; done) | (obtain ⟨_, _, h, _⟩ := h2; cases h) | (cases hb; done)
  | .tup xs, b, x, h1, h2, ha, hb => by
    obtain ⟨a, vs, rfl, q, r⟩ := h1
    cases b <;> first | (cases h2; done) | (cases hb; done) | skip
    · obtain ⟨a', ws, e, q2, r2⟩ := h2
      cases e
      have e := I.tuple_inj q.sq q2.sq
      subst e
      rw [reps_det I xs _ vs r r2 ha hb]
    · obtain ⟨a', ws, e, q2, r2⟩ := h2
      cases e
      exact (Inv.lst_tup I q2 q.sq).elim
  | .lst xs, b, x, h1, h2, ha, hb => by
    obtain ⟨a, vs, rfl, q, r⟩ := h1
    cases b <;> first | (cases h2; done) | (cases hb; done) | skip
    · obtain ⟨a', ws, e, q2, r2⟩ := h2
      cases e
      exact (Inv.lst_tup I q q2.sq).elim
    · obtain ⟨a', ws, e, q2, r2⟩ := h2
      cases e
      have e := I.list_inj q q2
      subst e
      rw [reps_det I xs _ vs r r2 ha hb]
  | .dct _, _, _, _, _, h, _ => by cases h
  | .set _, _, _, _, _, h, _ => by cases h
  | .ref _, _, _, _, _, h, _ => by cases h
  | .fn _, _, _, _, _, h, _ => by cases h
  | .ty _, _, _, _, _, h, _ => by cases h
theorem reps_det (I : Inv X pins σ W.H s) : ∀ (a b : List D) (x : List V), RepDs X.K mg W a x → RepDs X.K mg W b x → D.plains a = true → D.plains b = true → a = b
  | [], _, _, h1, h2, _, _ => by cases h1; cases h2; rfl
  | d :: ds, _, _, h1, h2, ha, hb => by
    cases h1 with
    | cons p1 r1 =>
      cases h2 with
      | cons p2 r2 =>
        rw [D.plains, Bool.and_eq_true] at ha hb
        have nr : ∀ {e : D}, e.plain = true → notRef e = true := fun {e} h => by cases e <;> first | rfl | (cases h; done)
        rw [rep_det I d _ _ (p1.at (nr ha.1)) (p2.at (nr hb.1)) ha.1 hb.1, reps_det I ds _ _ r1 r2 ha.2 hb.2]
end
theorem plain_notRef {e : D} (h : e.plain = true) : notRef e = true := by cases e <;> first | rfl | (cases h; done)
mutual
theorem eqAt_D (I : Inv X pins σ W.H s) : ∀ (a b : D) (x y : V) (v u : Value) (A : Around), At X.K mg W a x → At X.K mg W b y → RelV x v → RelV y u → a.plain = true → b.plain = true →
    A.units + min a.depth b.depth < cLine → EqAt A s v u (D.eqv a b)
  | .non, .non => by
    intro x y v u A h1 h2 r1 r2 hp hq hu
    obtain rfl := h1; cases r1
    obtain rfl := h2; cases r2
    exact EqAt.same _
  | .non, .bl q => by
    intro x y v u A h1 h2 r1 r2 hp hq hu
    obtain rfl := h1; cases r1
    obtain rfl := h2; cases r2
    exact EqAt.none_bool q
  | .non, .int q => by
    intro x y v u A h1 h2 r1 r2 hp hq hu
    obtain rfl := h1; cases r1
    obtain rfl := h2; obtain ⟨t2, rfl⟩ := r2
    exact EqAt.none_int q t2
  | .non, .str q => by
    intro x y v u A h1 h2 r1 r2 hp hq hu
    obtain rfl := h1; cases r1
    obtain rfl := h2; obtain ⟨t2, rfl⟩ := r2
    exact EqAt.none_str q t2
  | .non, .tup q => by
    intro x y v u A h1 h2 r1 r2 hp hq hu
    obtain rfl := h1; cases r1
    obtain ⟨l2, vs2, rfl, sq2, ds2⟩ := h2; cases r2; obtain ⟨its2, rv2, pl2, z2⟩ := I.tuple sq2.sq
    exact EqAt.none_tuple (tupIs pl2) (by omega)
  | .non, .lst q => by
    intro x y v u A h1 h2 r1 r2 hp hq hu
    obtain rfl := h1; cases r1
    obtain ⟨l2, vs2, rfl, sq2, ds2⟩ := h2; cases r2; obtain ⟨its2, rv2, pl2, z2⟩ := I.list sq2
    exact EqAt.none_list pl2.isList (by omega)
  | .bl p, .non => by
    intro x y v u A h1 h2 r1 r2 hp hq hu
    obtain rfl := h1; cases r1
    obtain rfl := h2; cases r2
    exact EqAt.bool_none p
  | .bl p, .bl q => by
    intro x y v u A h1 h2 r1 r2 hp hq hu
    obtain rfl := h1; cases r1
    obtain rfl := h2; cases r2
    exact EqAt.bool_bool p q
  | .bl p, .int q => by
    intro x y v u A h1 h2 r1 r2 hp hq hu
    obtain rfl := h1; cases r1
    obtain rfl := h2; obtain ⟨t2, rfl⟩ := r2
    exact EqAt.bool_int p q t2
  | .bl p, .str q => by
    intro x y v u A h1 h2 r1 r2 hp hq hu
    obtain rfl := h1; cases r1
    obtain rfl := h2; obtain ⟨t2, rfl⟩ := r2
    exact EqAt.bool_str p q t2
  | .bl p, .tup q => by
    intro x y v u A h1 h2 r1 r2 hp hq hu
    obtain rfl := h1; cases r1
    obtain ⟨l2, vs2, rfl, sq2, ds2⟩ := h2; cases r2; obtain ⟨its2, rv2, pl2, z2⟩ := I.tuple sq2.sq
    exact EqAt.bool_tuple p (tupIs pl2) (by omega)
  | .bl p, .lst q => by
    intro x y v u A h1 h2 r1 r2 hp hq hu
    obtain rfl := h1; cases r1
    obtain ⟨l2, vs2, rfl, sq2, ds2⟩ := h2; cases r2; obtain ⟨its2, rv2, pl2, z2⟩ := I.list sq2
    exact EqAt.bool_list p pl2.isList (by omega)
  | .int p, .non => by
    intro x y v u A h1 h2 r1 r2 hp hq hu
    obtain rfl := h1; obtain ⟨t1, rfl⟩ := r1
    obtain rfl := h2; cases r2
    exact EqAt.int_none p t1
  | .int p, .bl q => by
    intro x y v u A h1 h2 r1 r2 hp hq hu
    obtain rfl := h1; obtain ⟨t1, rfl⟩ := r1
    obtain rfl := h2; cases r2
    exact EqAt.int_bool p t1 q
  | .int p, .int q => by
    intro x y v u A h1 h2 r1 r2 hp hq hu
    obtain rfl := h1; obtain ⟨t1, rfl⟩ := r1
    obtain rfl := h2; obtain ⟨t2, rfl⟩ := r2
    exact EqAt.int_int p t1 q t2
  | .int p, .str q => by
    intro x y v u A h1 h2 r1 r2 hp hq hu
    obtain rfl := h1; obtain ⟨t1, rfl⟩ := r1
    obtain rfl := h2; obtain ⟨t2, rfl⟩ := r2
    exact EqAt.int_str p t1 q t2
  | .int p, .tup q => by
    intro x y v u A h1 h2 r1 r2 hp hq hu
    obtain rfl := h1; obtain ⟨t1, rfl⟩ := r1
    obtain ⟨l2, vs2, rfl, sq2, ds2⟩ := h2; cases r2; obtain ⟨its2, rv2, pl2, z2⟩ := I.tuple sq2.sq
    exact EqAt.int_tuple p t1 (tupIs pl2) (by omega)
  | .int p, .lst q => by
    intro x y v u A h1 h2 r1 r2 hp hq hu
    obtain rfl := h1; obtain ⟨t1, rfl⟩ := r1
    obtain ⟨l2, vs2, rfl, sq2, ds2⟩ := h2; cases r2; obtain ⟨its2, rv2, pl2, z2⟩ := I.list sq2
    exact EqAt.int_list p t1 pl2.isList (by omega)
  | .str p, .non => by
    intro x y v u A h1 h2 r1 r2 hp hq hu
    obtain rfl := h1; obtain ⟨t1, rfl⟩ := r1
    obtain rfl := h2; cases r2
    exact EqAt.str_none p t1
  | .str p, .bl q => by
    intro x y v u A h1 h2 r1 r2 hp hq hu
    obtain rfl := h1; obtain ⟨t1, rfl⟩ := r1
    obtain rfl := h2; cases r2
    exact EqAt.str_bool p t1 q
  | .str p, .int q => by
    intro x y v u A h1 h2 r1 r2 hp hq hu
    obtain rfl := h1; obtain ⟨t1, rfl⟩ := r1
    obtain rfl := h2; obtain ⟨t2, rfl⟩ := r2
    exact EqAt.str_int p t1 q t2
  | .str p, .str q => by
    intro x y v u A h1 h2 r1 r2 hp hq hu
    obtain rfl := h1; obtain ⟨t1, rfl⟩ := r1
    obtain rfl := h2; obtain ⟨t2, rfl⟩ := r2
    exact EqAt.str_str p t1 q t2
  | .str p, .tup q => by
    intro x y v u A h1 h2 r1 r2 hp hq hu
    obtain rfl := h1; obtain ⟨t1, rfl⟩ := r1
    obtain ⟨l2, vs2, rfl, sq2, ds2⟩ := h2; cases r2; obtain ⟨its2, rv2, pl2, z2⟩ := I.tuple sq2.sq
    exact EqAt.str_tuple p t1 (tupIs pl2) (by omega)
  | .str p, .lst q => by
    intro x y v u A h1 h2 r1 r2 hp hq hu
    obtain rfl := h1; obtain ⟨t1, rfl⟩ := r1
    obtain ⟨l2, vs2, rfl, sq2, ds2⟩ := h2; cases r2; obtain ⟨its2, rv2, pl2, z2⟩ := I.list sq2
    exact EqAt.str_list p t1 pl2.isList (by omega)
  | .tup p, .non => by
    intro x y v u A h1 h2 r1 r2 hp hq hu
    obtain ⟨l1, vs1, rfl, sq1, ds1⟩ := h1; cases r1; obtain ⟨its1, rv1, pl1, z1⟩ := I.tuple sq1.sq
    obtain rfl := h2; cases r2
    exact EqAt.tuple_none (tupIs pl1) (by omega)
  | .tup p, .bl q => by
    intro x y v u A h1 h2 r1 r2 hp hq hu
    obtain ⟨l1, vs1, rfl, sq1, ds1⟩ := h1; cases r1; obtain ⟨its1, rv1, pl1, z1⟩ := I.tuple sq1.sq
    obtain rfl := h2; cases r2
    exact EqAt.tuple_bool q (tupIs pl1) (by omega)
  | .tup p, .int q => by
    intro x y v u A h1 h2 r1 r2 hp hq hu
    obtain ⟨l1, vs1, rfl, sq1, ds1⟩ := h1; cases r1; obtain ⟨its1, rv1, pl1, z1⟩ := I.tuple sq1.sq
    obtain rfl := h2; obtain ⟨t2, rfl⟩ := r2
    exact EqAt.tuple_int q t2 (tupIs pl1) (by omega)
  | .tup p, .str q => by
    intro x y v u A h1 h2 r1 r2 hp hq hu
    obtain ⟨l1, vs1, rfl, sq1, ds1⟩ := h1; cases r1; obtain ⟨its1, rv1, pl1, z1⟩ := I.tuple sq1.sq
    obtain rfl := h2; obtain ⟨t2, rfl⟩ := r2
    exact EqAt.tuple_str q t2 (tupIs pl1) (by omega)
  | .tup p, .tup q => by
    intro x y v u A h1 h2 r1 r2 hp hq hu
    obtain ⟨l1, vs1, rfl, sq1, ds1⟩ := h1; cases r1; obtain ⟨its1, rv1, pl1, z1⟩ := I.tuple sq1.sq
    obtain ⟨l2, vs2, rfl, sq2, ds2⟩ := h2; cases r2; obtain ⟨its2, rv2, pl2, z2⟩ := I.tuple sq2.sq
    have hl : s.heap.IsTuple l1 its1.toArray := tupIs pl1
    have hb : s.heap.IsTuple l2 its2.toArray := tupIs pl2
    have n1 : its1.toArray.size = p.length := by rw [List.size_toArray, ← rv1.length, ds1.length]
    have n2 : its2.toArray.size = q.length := by rw [List.size_toArray, ← rv2.length, ds2.length]
    have hu' : A.in1.units + min (D.depths p) (D.depths q) < cLine := by show A.units + 1 + _ < _; simp only [D.depth] at hu; omega
    have he : ∀ j (j1 : j < its1.toArray.size) (j2 : j < its2.toArray.size), EqAt A.in1 s its1.toArray[j] its2.toArray[j] (pairD p q j) := fun j j1 j2 => eqAt_Ds I p q vs1 vs2 its1 its2 A.in1 ds1 ds2 rv1 rv2 hp hq hu' j (by simpa using j1) (by simpa using j2)
    by_cases hne : l1 = l2
    · subst hne
      have e : D.tup p = D.tup q := rep_det I _ _ (.ref l1) ⟨l1, vs1, rfl, sq1, ds1⟩ ⟨l1, vs2, rfl, sq2, ds2⟩ hp hq
      cases e
      rw [eqv_refl _ hp]
      exact EqAt.same _
    refine .of_refs hne ?_
    show RcAt A s (.ref l1) (.ref l2) (D.eqvs p q)
    rw [← eqvs_eq p q, ← n1, ← n2]
    exact RcAt.tuples hl hb (by omega) he
  | .tup p, .lst q => by
    intro x y v u A h1 h2 r1 r2 hp hq hu
    obtain ⟨l1, vs1, rfl, sq1, ds1⟩ := h1; cases r1; obtain ⟨its1, rv1, pl1, z1⟩ := I.tuple sq1.sq
    obtain ⟨l2, vs2, rfl, sq2, ds2⟩ := h2; cases r2; obtain ⟨its2, rv2, pl2, z2⟩ := I.list sq2
    exact EqAt.tuple_list (tupIs pl1) pl2.isList (by omega)
  | .lst p, .non => by
    intro x y v u A h1 h2 r1 r2 hp hq hu
    obtain ⟨l1, vs1, rfl, sq1, ds1⟩ := h1; cases r1; obtain ⟨its1, rv1, pl1, z1⟩ := I.list sq1
    obtain rfl := h2; cases r2
    exact EqAt.list_none pl1.isList (by omega)
  | .lst p, .bl q => by
    intro x y v u A h1 h2 r1 r2 hp hq hu
    obtain ⟨l1, vs1, rfl, sq1, ds1⟩ := h1; cases r1; obtain ⟨its1, rv1, pl1, z1⟩ := I.list sq1
    obtain rfl := h2; cases r2
    exact EqAt.list_bool q pl1.isList (by omega)
  | .lst p, .int q => by
    intro x y v u A h1 h2 r1 r2 hp hq hu
    obtain ⟨l1, vs1, rfl, sq1, ds1⟩ := h1; cases r1; obtain ⟨its1, rv1, pl1, z1⟩ := I.list sq1
    obtain rfl := h2; obtain ⟨t2, rfl⟩ := r2
    exact EqAt.list_int q t2 pl1.isList (by omega)
  | .lst p, .str q => by
    intro x y v u A h1 h2 r1 r2 hp hq hu
    obtain ⟨l1, vs1, rfl, sq1, ds1⟩ := h1; cases r1; obtain ⟨its1, rv1, pl1, z1⟩ := I.list sq1
    obtain rfl := h2; obtain ⟨t2, rfl⟩ := r2
    exact EqAt.list_str q t2 pl1.isList (by omega)
  | .lst p, .tup q => by
    intro x y v u A h1 h2 r1 r2 hp hq hu
    obtain ⟨l1, vs1, rfl, sq1, ds1⟩ := h1; cases r1; obtain ⟨its1, rv1, pl1, z1⟩ := I.list sq1
    obtain ⟨l2, vs2, rfl, sq2, ds2⟩ := h2; cases r2; obtain ⟨its2, rv2, pl2, z2⟩ := I.tuple sq2.sq
    exact EqAt.list_tuple pl1.isList (tupIs pl2) (by omega)
  | .lst p, .lst q => by
    intro x y v u A h1 h2 r1 r2 hp hq hu
    obtain ⟨l1, vs1, rfl, sq1, ds1⟩ := h1; cases r1; obtain ⟨its1, rv1, pl1, z1⟩ := I.list sq1
    obtain ⟨l2, vs2, rfl, sq2, ds2⟩ := h2; cases r2; obtain ⟨its2, rv2, pl2, z2⟩ := I.list sq2
    have hl : s.heap.IsList l1 its1.toArray := pl1.isList
    have hb : s.heap.IsList l2 its2.toArray := pl2.isList
    have n1 : its1.toArray.size = p.length := by rw [List.size_toArray, ← rv1.length, ds1.length]
    have n2 : its2.toArray.size = q.length := by rw [List.size_toArray, ← rv2.length, ds2.length]
    have hu' : A.in1.units + min (D.depths p) (D.depths q) < cLine := by show A.units + 1 + _ < _; simp only [D.depth] at hu; omega
    have he : ∀ j (j1 : j < its1.toArray.size) (j2 : j < its2.toArray.size), EqAt A.in1 s its1.toArray[j] its2.toArray[j] (pairD p q j) := fun j j1 j2 => eqAt_Ds I p q vs1 vs2 its1 its2 A.in1 ds1 ds2 rv1 rv2 hp hq hu' j (by simpa using j1) (by simpa using j2)
    by_cases hne : l1 = l2
    · subst hne
      have e : D.lst p = D.lst q := rep_det I _ _ (.ref l1) ⟨l1, vs1, rfl, sq1, ds1⟩ ⟨l1, vs2, rfl, sq2, ds2⟩ hp hq
      cases e
      rw [eqv_refl _ hp]
      exact EqAt.same _
    refine .of_refs hne ?_
    show RcAt A s (.ref l1) (.ref l2) (D.eqvs p q)
    by_cases hsz : its1.toArray.size = its2.toArray.size
    · rw [← eqvs_same (by omega : p.length = q.length), ← n1]
      exact RcAt.lists hl hb hsz (by omega) he
    · rw [eqvs_other (by omega : p.length ≠ q.length)]
      exact RcAt.lists_lengths hl hb (by simpa using hsz) (by omega)
  | .dct _, _ => by
    intro x y v u A h1 h2 r1 r2 hp hq hu
    cases hp
  | .set _, _ => by
    intro x y v u A h1 h2 r1 r2 hp hq hu
    cases hp
  | .ref _, _ => by
    intro x y v u A h1 h2 r1 r2 hp hq hu
    cases hp
  | .fn _, _ => by
    intro x y v u A h1 h2 r1 r2 hp hq hu
    cases hp
  | .ty _, _ => by
    intro x y v u A h1 h2 r1 r2 hp hq hu
    cases hp
  | .non, .dct _ => by
    intro x y v u A h1 h2 r1 r2 hp hq hu
    cases hq
  | .bl _, .dct _ => by
    intro x y v u A h1 h2 r1 r2 hp hq hu
    cases hq
  | .int _, .dct _ => by
    intro x y v u A h1 h2 r1 r2 hp hq hu
    cases hq
  | .str _, .dct _ => by
    intro x y v u A h1 h2 r1 r2 hp hq hu
    cases hq
  | .tup _, .dct _ => by
    intro x y v u A h1 h2 r1 r2 hp hq hu
    cases hq
  | .lst _, .dct _ => by
    intro x y v u A h1 h2 r1 r2 hp hq hu
    cases hq
  | .non, .set _ => by
    intro x y v u A h1 h2 r1 r2 hp hq hu
    cases hq
  | .bl _, .set _ => by
    intro x y v u A h1 h2 r1 r2 hp hq hu
    cases hq
  | .int _, .set _ => by
    intro x y v u A h1 h2 r1 r2 hp hq hu
    cases hq
  | .str _, .set _ => by
    intro x y v u A h1 h2 r1 r2 hp hq hu
    cases hq
  | .tup _, .set _ => by
    intro x y v u A h1 h2 r1 r2 hp hq hu
    cases hq
  | .lst _, .set _ => by
    intro x y v u A h1 h2 r1 r2 hp hq hu
    cases hq
  | .non, .ref _ => by
    intro x y v u A h1 h2 r1 r2 hp hq hu
    cases hq
  | .bl _, .ref _ => by
    intro x y v u A h1 h2 r1 r2 hp hq hu
    cases hq
  | .int _, .ref _ => by
    intro x y v u A h1 h2 r1 r2 hp hq hu
    cases hq
  | .str _, .ref _ => by
    intro x y v u A h1 h2 r1 r2 hp hq hu
    cases hq
  | .tup _, .ref _ => by
    intro x y v u A h1 h2 r1 r2 hp hq hu
    cases hq
  | .lst _, .ref _ => by
    intro x y v u A h1 h2 r1 r2 hp hq hu
    cases hq
  | .non, .fn _ => by
    intro x y v u A h1 h2 r1 r2 hp hq hu
    cases hq
  | .bl _, .fn _ => by
    intro x y v u A h1 h2 r1 r2 hp hq hu
    cases hq
  | .int _, .fn _ => by
    intro x y v u A h1 h2 r1 r2 hp hq hu
    cases hq
  | .str _, .fn _ => by
    intro x y v u A h1 h2 r1 r2 hp hq hu
    cases hq
  | .tup _, .fn _ => by
    intro x y v u A h1 h2 r1 r2 hp hq hu
    cases hq
  | .lst _, .fn _ => by
    intro x y v u A h1 h2 r1 r2 hp hq hu
    cases hq
  | .non, .ty _ => by
    intro x y v u A h1 h2 r1 r2 hp hq hu
    cases hq
  | .bl _, .ty _ => by
    intro x y v u A h1 h2 r1 r2 hp hq hu
    cases hq
  | .int _, .ty _ => by
    intro x y v u A h1 h2 r1 r2 hp hq hu
    cases hq
  | .str _, .ty _ => by
    intro x y v u A h1 h2 r1 r2 hp hq hu
    cases hq
  | .tup _, .ty _ => by
    intro x y v u A h1 h2 r1 r2 hp hq hu
    cases hq
  | .lst _, .ty _ => by
    intro x y v u A h1 h2 r1 r2 hp hq hu
    cases hq
theorem eqAt_Ds (I : Inv X pins σ W.H s) : ∀ (xs ys : List D) (vs ws : List V) (its its2 : List Value) (A : Around), RepDs X.K mg W xs vs → RepDs X.K mg W ys ws → Vals vs its → Vals ws its2 → D.plains xs = true → D.plains ys = true →
    A.units + min (D.depths xs) (D.depths ys) < cLine → ∀ j (j1 : j < its.length) (j2 : j < its2.length), EqAt A s its[j] its2[j] (pairD xs ys j)
  | [], _, _, _, _, _, _, h1, _, r1, _, _, _, _, j, j1, _ => by cases h1; cases r1; exact absurd j1 (by simp)
  | _ :: _, [], _, _, _, _, _, _, h2, _, r2, _, _, _, j, _, j2 => by cases h2; cases r2; exact absurd j2 (by simp)
  | x :: xs, y :: ys, _, _, _, _, A, .cons p1 q1, .cons p2 q2, .cons r1 s1, .cons r2 s2, hp, hq, hu, j, j1, j2 => by
    rw [D.plains, Bool.and_eq_true] at hp hq
    simp only [D.depths] at hu
    cases j with
    | zero => exact eqAt_D I x y _ _ _ _ A (p1.at (plain_notRef hp.1)) (p2.at (plain_notRef hq.1)) r1 r2 hp.1 hq.1 (by omega)
    | succ j =>
      rw [pairD_succ]
      exact eqAt_Ds I xs ys _ _ _ _ A q1 q2 s1 s2 hp.2 hq.2 (by omega) j (by simpa using j1) (by simpa using j2)
end
theorem rcAt_D (I : Inv X pins σ W.H s) : ∀ (a b : D) (x y : V) (v u : Value) (A : Around), At X.K mg W a x → At X.K mg W b y → RelV x v → RelV y u → a.plain = true → b.plain = true →
    A.units + min a.depth b.depth < cLine → RcAt A s v u (D.eqv a b)
  | .non, .non => by
    intro x y v u A h1 h2 r1 r2 hp hq hu
    obtain rfl := h1; cases r1
    obtain rfl := h2; cases r2
    exact RcAt.none_none 
  | .non, .bl q => by
    intro x y v u A h1 h2 r1 r2 hp hq hu
    obtain rfl := h1; cases r1
    obtain rfl := h2; cases r2
    exact RcAt.none_bool q
  | .non, .int q => by
    intro x y v u A h1 h2 r1 r2 hp hq hu
    obtain rfl := h1; cases r1
    obtain rfl := h2; obtain ⟨t2, rfl⟩ := r2
    exact RcAt.none_int q t2
  | .non, .str q => by
    intro x y v u A h1 h2 r1 r2 hp hq hu
    obtain rfl := h1; cases r1
    obtain rfl := h2; obtain ⟨t2, rfl⟩ := r2
    exact RcAt.none_str q t2
  | .non, .tup q => by
    intro x y v u A h1 h2 r1 r2 hp hq hu
    obtain rfl := h1; cases r1
    obtain ⟨l2, vs2, rfl, sq2, ds2⟩ := h2; cases r2; obtain ⟨its2, rv2, pl2, z2⟩ := I.tuple sq2.sq
    exact RcAt.none_tuple (tupIs pl2) (by omega)
  | .non, .lst q => by
    intro x y v u A h1 h2 r1 r2 hp hq hu
    obtain rfl := h1; cases r1
    obtain ⟨l2, vs2, rfl, sq2, ds2⟩ := h2; cases r2; obtain ⟨its2, rv2, pl2, z2⟩ := I.list sq2
    exact RcAt.none_list pl2.isList (by omega)
  | .bl p, .non => by
    intro x y v u A h1 h2 r1 r2 hp hq hu
    obtain rfl := h1; cases r1
    obtain rfl := h2; cases r2
    exact RcAt.bool_none p
  | .bl p, .bl q => by
    intro x y v u A h1 h2 r1 r2 hp hq hu
    obtain rfl := h1; cases r1
    obtain rfl := h2; cases r2
    exact RcAt.bool_bool p q
  | .bl p, .int q => by
    intro x y v u A h1 h2 r1 r2 hp hq hu
    obtain rfl := h1; cases r1
    obtain rfl := h2; obtain ⟨t2, rfl⟩ := r2
    exact RcAt.bool_int p q t2
  | .bl p, .str q => by
    intro x y v u A h1 h2 r1 r2 hp hq hu
    obtain rfl := h1; cases r1
    obtain rfl := h2; obtain ⟨t2, rfl⟩ := r2
    exact RcAt.bool_str p q t2
  | .bl p, .tup q => by
    intro x y v u A h1 h2 r1 r2 hp hq hu
    obtain rfl := h1; cases r1
    obtain ⟨l2, vs2, rfl, sq2, ds2⟩ := h2; cases r2; obtain ⟨its2, rv2, pl2, z2⟩ := I.tuple sq2.sq
    exact RcAt.bool_tuple p (tupIs pl2) (by omega)
  | .bl p, .lst q => by
    intro x y v u A h1 h2 r1 r2 hp hq hu
    obtain rfl := h1; cases r1
    obtain ⟨l2, vs2, rfl, sq2, ds2⟩ := h2; cases r2; obtain ⟨its2, rv2, pl2, z2⟩ := I.list sq2
    exact RcAt.bool_list p pl2.isList (by omega)
  | .int p, .non => by
    intro x y v u A h1 h2 r1 r2 hp hq hu
    obtain rfl := h1; obtain ⟨t1, rfl⟩ := r1
    obtain rfl := h2; cases r2
    exact RcAt.int_none p t1
  | .int p, .bl q => by
    intro x y v u A h1 h2 r1 r2 hp hq hu
    obtain rfl := h1; obtain ⟨t1, rfl⟩ := r1
    obtain rfl := h2; cases r2
    exact RcAt.int_bool p t1 q
  | .int p, .int q => by
    intro x y v u A h1 h2 r1 r2 hp hq hu
    obtain rfl := h1; obtain ⟨t1, rfl⟩ := r1
    obtain rfl := h2; obtain ⟨t2, rfl⟩ := r2
    exact RcAt.int_int p t1 q t2
  | .int p, .str q => by
    intro x y v u A h1 h2 r1 r2 hp hq hu
    obtain rfl := h1; obtain ⟨t1, rfl⟩ := r1
    obtain rfl := h2; obtain ⟨t2, rfl⟩ := r2
    exact RcAt.int_str p t1 q t2
  | .int p, .tup q => by
    intro x y v u A h1 h2 r1 r2 hp hq hu
    obtain rfl := h1; obtain ⟨t1, rfl⟩ := r1
    obtain ⟨l2, vs2, rfl, sq2, ds2⟩ := h2; cases r2; obtain ⟨its2, rv2, pl2, z2⟩ := I.tuple sq2.sq
    exact RcAt.int_tuple p t1 (tupIs pl2) (by omega)
  | .int p, .lst q => by
    intro x y v u A h1 h2 r1 r2 hp hq hu
    obtain rfl := h1; obtain ⟨t1, rfl⟩ := r1
    obtain ⟨l2, vs2, rfl, sq2, ds2⟩ := h2; cases r2; obtain ⟨its2, rv2, pl2, z2⟩ := I.list sq2
    exact RcAt.int_list p t1 pl2.isList (by omega)
  | .str p, .non => by
    intro x y v u A h1 h2 r1 r2 hp hq hu
    obtain rfl := h1; obtain ⟨t1, rfl⟩ := r1
    obtain rfl := h2; cases r2
    exact RcAt.str_none p t1
  | .str p, .bl q => by
    intro x y v u A h1 h2 r1 r2 hp hq hu
    obtain rfl := h1; obtain ⟨t1, rfl⟩ := r1
    obtain rfl := h2; cases r2
    exact RcAt.str_bool p t1 q
  | .str p, .int q => by
    intro x y v u A h1 h2 r1 r2 hp hq hu
    obtain rfl := h1; obtain ⟨t1, rfl⟩ := r1
    obtain rfl := h2; obtain ⟨t2, rfl⟩ := r2
    exact RcAt.str_int p t1 q t2
  | .str p, .str q => by
    intro x y v u A h1 h2 r1 r2 hp hq hu
    obtain rfl := h1; obtain ⟨t1, rfl⟩ := r1
    obtain rfl := h2; obtain ⟨t2, rfl⟩ := r2
    exact RcAt.str_str p t1 q t2
  | .str p, .tup q => by
    intro x y v u A h1 h2 r1 r2 hp hq hu
    obtain rfl := h1; obtain ⟨t1, rfl⟩ := r1
    obtain ⟨l2, vs2, rfl, sq2, ds2⟩ := h2; cases r2; obtain ⟨its2, rv2, pl2, z2⟩ := I.tuple sq2.sq
    exact RcAt.str_tuple p t1 (tupIs pl2) (by omega)
  | .str p, .lst q => by
    intro x y v u A h1 h2 r1 r2 hp hq hu
    obtain rfl := h1; obtain ⟨t1, rfl⟩ := r1
    obtain ⟨l2, vs2, rfl, sq2, ds2⟩ := h2; cases r2; obtain ⟨its2, rv2, pl2, z2⟩ := I.list sq2
    exact RcAt.str_list p t1 pl2.isList (by omega)
  | .tup p, .non => by
    intro x y v u A h1 h2 r1 r2 hp hq hu
    obtain ⟨l1, vs1, rfl, sq1, ds1⟩ := h1; cases r1; obtain ⟨its1, rv1, pl1, z1⟩ := I.tuple sq1.sq
    obtain rfl := h2; cases r2
    exact RcAt.tuple_none (tupIs pl1) (by omega)
  | .tup p, .bl q => by
    intro x y v u A h1 h2 r1 r2 hp hq hu
    obtain ⟨l1, vs1, rfl, sq1, ds1⟩ := h1; cases r1; obtain ⟨its1, rv1, pl1, z1⟩ := I.tuple sq1.sq
    obtain rfl := h2; cases r2
    exact RcAt.tuple_bool q (tupIs pl1) (by omega)
  | .tup p, .int q => by
    intro x y v u A h1 h2 r1 r2 hp hq hu
    obtain ⟨l1, vs1, rfl, sq1, ds1⟩ := h1; cases r1; obtain ⟨its1, rv1, pl1, z1⟩ := I.tuple sq1.sq
    obtain rfl := h2; obtain ⟨t2, rfl⟩ := r2
    exact RcAt.tuple_int q t2 (tupIs pl1) (by omega)
  | .tup p, .str q => by
    intro x y v u A h1 h2 r1 r2 hp hq hu
    obtain ⟨l1, vs1, rfl, sq1, ds1⟩ := h1; cases r1; obtain ⟨its1, rv1, pl1, z1⟩ := I.tuple sq1.sq
    obtain rfl := h2; obtain ⟨t2, rfl⟩ := r2
    exact RcAt.tuple_str q t2 (tupIs pl1) (by omega)
  | .tup p, .tup q => by
    intro x y v u A h1 h2 r1 r2 hp hq hu
    obtain ⟨l1, vs1, rfl, sq1, ds1⟩ := h1; cases r1; obtain ⟨its1, rv1, pl1, z1⟩ := I.tuple sq1.sq
    obtain ⟨l2, vs2, rfl, sq2, ds2⟩ := h2; cases r2; obtain ⟨its2, rv2, pl2, z2⟩ := I.tuple sq2.sq
    have hl : s.heap.IsTuple l1 its1.toArray := tupIs pl1
    have hb : s.heap.IsTuple l2 its2.toArray := tupIs pl2
    have n1 : its1.toArray.size = p.length := by rw [List.size_toArray, ← rv1.length, ds1.length]
    have n2 : its2.toArray.size = q.length := by rw [List.size_toArray, ← rv2.length, ds2.length]
    have hu' : A.in1.units + min (D.depths p) (D.depths q) < cLine := by show A.units + 1 + _ < _; simp only [D.depth] at hu; omega
    have he : ∀ j (j1 : j < its1.toArray.size) (j2 : j < its2.toArray.size), EqAt A.in1 s its1.toArray[j] its2.toArray[j] (pairD p q j) := fun j j1 j2 => eqAt_Ds I p q vs1 vs2 its1 its2 A.in1 ds1 ds2 rv1 rv2 hp hq hu' j (by simpa using j1) (by simpa using j2)
    show RcAt A s (.ref l1) (.ref l2) (D.eqvs p q)
    rw [← eqvs_eq p q, ← n1, ← n2]
    exact RcAt.tuples hl hb (by omega) he
  | .tup p, .lst q => by
    intro x y v u A h1 h2 r1 r2 hp hq hu
    obtain ⟨l1, vs1, rfl, sq1, ds1⟩ := h1; cases r1; obtain ⟨its1, rv1, pl1, z1⟩ := I.tuple sq1.sq
    obtain ⟨l2, vs2, rfl, sq2, ds2⟩ := h2; cases r2; obtain ⟨its2, rv2, pl2, z2⟩ := I.list sq2
    exact RcAt.tuple_list (tupIs pl1) pl2.isList (by omega)
  | .lst p, .non => by
    intro x y v u A h1 h2 r1 r2 hp hq hu
    obtain ⟨l1, vs1, rfl, sq1, ds1⟩ := h1; cases r1; obtain ⟨its1, rv1, pl1, z1⟩ := I.list sq1
    obtain rfl := h2; cases r2
    exact RcAt.list_none pl1.isList (by omega)
  | .lst p, .bl q => by
    intro x y v u A h1 h2 r1 r2 hp hq hu
    obtain ⟨l1, vs1, rfl, sq1, ds1⟩ := h1; cases r1; obtain ⟨its1, rv1, pl1, z1⟩ := I.list sq1
    obtain rfl := h2; cases r2
    exact RcAt.list_bool q pl1.isList (by omega)
  | .lst p, .int q => by
    intro x y v u A h1 h2 r1 r2 hp hq hu
    obtain ⟨l1, vs1, rfl, sq1, ds1⟩ := h1; cases r1; obtain ⟨its1, rv1, pl1, z1⟩ := I.list sq1
    obtain rfl := h2; obtain ⟨t2, rfl⟩ := r2
    exact RcAt.list_int q t2 pl1.isList (by omega)
  | .lst p, .str q => by
    intro x y v u A h1 h2 r1 r2 hp hq hu
    obtain ⟨l1, vs1, rfl, sq1, ds1⟩ := h1; cases r1; obtain ⟨its1, rv1, pl1, z1⟩ := I.list sq1
    obtain rfl := h2; obtain ⟨t2, rfl⟩ := r2
    exact RcAt.list_str q t2 pl1.isList (by omega)
  | .lst p, .tup q => by
    intro x y v u A h1 h2 r1 r2 hp hq hu
    obtain ⟨l1, vs1, rfl, sq1, ds1⟩ := h1; cases r1; obtain ⟨its1, rv1, pl1, z1⟩ := I.list sq1
    obtain ⟨l2, vs2, rfl, sq2, ds2⟩ := h2; cases r2; obtain ⟨its2, rv2, pl2, z2⟩ := I.tuple sq2.sq
    exact RcAt.list_tuple pl1.isList (tupIs pl2) (by omega)
  | .lst p, .lst q => by
    intro x y v u A h1 h2 r1 r2 hp hq hu
    obtain ⟨l1, vs1, rfl, sq1, ds1⟩ := h1; cases r1; obtain ⟨its1, rv1, pl1, z1⟩ := I.list sq1
    obtain ⟨l2, vs2, rfl, sq2, ds2⟩ := h2; cases r2; obtain ⟨its2, rv2, pl2, z2⟩ := I.list sq2
    have hl : s.heap.IsList l1 its1.toArray := pl1.isList
    have hb : s.heap.IsList l2 its2.toArray := pl2.isList
    have n1 : its1.toArray.size = p.length := by rw [List.size_toArray, ← rv1.length, ds1.length]
    have n2 : its2.toArray.size = q.length := by rw [List.size_toArray, ← rv2.length, ds2.length]
    have hu' : A.in1.units + min (D.depths p) (D.depths q) < cLine := by show A.units + 1 + _ < _; simp only [D.depth] at hu; omega
    have he : ∀ j (j1 : j < its1.toArray.size) (j2 : j < its2.toArray.size), EqAt A.in1 s its1.toArray[j] its2.toArray[j] (pairD p q j) := fun j j1 j2 => eqAt_Ds I p q vs1 vs2 its1 its2 A.in1 ds1 ds2 rv1 rv2 hp hq hu' j (by simpa using j1) (by simpa using j2)
    show RcAt A s (.ref l1) (.ref l2) (D.eqvs p q)
    by_cases hsz : its1.toArray.size = its2.toArray.size
    · rw [← eqvs_same (by omega : p.length = q.length), ← n1]
      exact RcAt.lists hl hb hsz (by omega) he
    · rw [eqvs_other (by omega : p.length ≠ q.length)]
      exact RcAt.lists_lengths hl hb (by simpa using hsz) (by omega)
  | .dct _, _ => by
    intro x y v u A h1 h2 r1 r2 hp hq hu
    cases hp
  | .set _, _ => by
    intro x y v u A h1 h2 r1 r2 hp hq hu
    cases hp
  | .ref _, _ => by
    intro x y v u A h1 h2 r1 r2 hp hq hu
    cases hp
  | .fn _, _ => by
    intro x y v u A h1 h2 r1 r2 hp hq hu
    cases hp
  | .ty _, _ => by
    intro x y v u A h1 h2 r1 r2 hp hq hu
    cases hp
  | .non, .dct _ => by
    intro x y v u A h1 h2 r1 r2 hp hq hu
    cases hq
  | .bl _, .dct _ => by
    intro x y v u A h1 h2 r1 r2 hp hq hu
    cases hq
  | .int _, .dct _ => by
    intro x y v u A h1 h2 r1 r2 hp hq hu
    cases hq
  | .str _, .dct _ => by
    intro x y v u A h1 h2 r1 r2 hp hq hu
    cases hq
  | .tup _, .dct _ => by
    intro x y v u A h1 h2 r1 r2 hp hq hu
    cases hq
  | .lst _, .dct _ => by
    intro x y v u A h1 h2 r1 r2 hp hq hu
    cases hq
  | .non, .set _ => by
    intro x y v u A h1 h2 r1 r2 hp hq hu
    cases hq
  | .bl _, .set _ => by
    intro x y v u A h1 h2 r1 r2 hp hq hu
    cases hq
  | .int _, .set _ => by
    intro x y v u A h1 h2 r1 r2 hp hq hu
    cases hq
  | .str _, .set _ => by
    intro x y v u A h1 h2 r1 r2 hp hq hu
    cases hq
  | .tup _, .set _ => by
    intro x y v u A h1 h2 r1 r2 hp hq hu
    cases hq
  | .lst _, .set _ => by
    intro x y v u A h1 h2 r1 r2 hp hq hu
    cases hq
  | .non, .ref _ => by
    intro x y v u A h1 h2 r1 r2 hp hq hu
    cases hq
  | .bl _, .ref _ => by
    intro x y v u A h1 h2 r1 r2 hp hq hu
    cases hq
  | .int _, .ref _ => by
    intro x y v u A h1 h2 r1 r2 hp hq hu
    cases hq
  | .str _, .ref _ => by
    intro x y v u A h1 h2 r1 r2 hp hq hu
    cases hq
  | .tup _, .ref _ => by
    intro x y v u A h1 h2 r1 r2 hp hq hu
    cases hq
  | .lst _, .ref _ => by
    intro x y v u A h1 h2 r1 r2 hp hq hu
    cases hq
  | .non, .fn _ => by
    intro x y v u A h1 h2 r1 r2 hp hq hu
    cases hq
  | .bl _, .fn _ => by
    intro x y v u A h1 h2 r1 r2 hp hq hu
    cases hq
  | .int _, .fn _ => by
    intro x y v u A h1 h2 r1 r2 hp hq hu
    cases hq
  | .str _, .fn _ => by
    intro x y v u A h1 h2 r1 r2 hp hq hu
    cases hq
  | .tup _, .fn _ => by
    intro x y v u A h1 h2 r1 r2 hp hq hu
    cases hq
  | .lst _, .fn _ => by
    intro x y v u A h1 h2 r1 r2 hp hq hu
    cases hq
  | .non, .ty _ => by
    intro x y v u A h1 h2 r1 r2 hp hq hu
    cases hq
  | .bl _, .ty _ => by
    intro x y v u A h1 h2 r1 r2 hp hq hu
    cases hq
  | .int _, .ty _ => by
    intro x y v u A h1 h2 r1 r2 hp hq hu
    cases hq
  | .str _, .ty _ => by
    intro x y v u A h1 h2 r1 r2 hp hq hu
    cases hq
  | .tup _, .ty _ => by
    intro x y v u A h1 h2 r1 r2 hp hq hu
    cases hq
  | .lst _, .ty _ => by
    intro x y v u A h1 h2 r1 r2 hp hq hu
    cases hq
theorem neAt_D (I : Inv X pins σ W.H s) : ∀ (a b : D) (x y : V) (v u : Value) (A : Around), At X.K mg W a x → At X.K mg W b y → RelV x v → RelV y u → a.plain = true → b.plain = true →
    A.units + min a.depth b.depth < cLine → RcNeAt A s v u (!D.eqv a b)
  | .non, .non => by
    intro x y v u A h1 h2 r1 r2 hp hq hu
    obtain rfl := h1; cases r1
    obtain rfl := h2; cases r2
    exact RcNeAt.none_none 
  | .non, .bl q => by
    intro x y v u A h1 h2 r1 r2 hp hq hu
    obtain rfl := h1; cases r1
    obtain rfl := h2; cases r2
    exact RcNeAt.none_bool q
  | .non, .int q => by
    intro x y v u A h1 h2 r1 r2 hp hq hu
    obtain rfl := h1; cases r1
    obtain rfl := h2; obtain ⟨t2, rfl⟩ := r2
    exact RcNeAt.none_int q t2
  | .non, .str q => by
    intro x y v u A h1 h2 r1 r2 hp hq hu
    obtain rfl := h1; cases r1
    obtain rfl := h2; obtain ⟨t2, rfl⟩ := r2
    exact RcNeAt.none_str q t2
  | .non, .tup q => by
    intro x y v u A h1 h2 r1 r2 hp hq hu
    obtain rfl := h1; cases r1
    obtain ⟨l2, vs2, rfl, sq2, ds2⟩ := h2; cases r2; obtain ⟨its2, rv2, pl2, z2⟩ := I.tuple sq2.sq
    exact RcNeAt.none_tuple (tupIs pl2) (by omega)
  | .non, .lst q => by
    intro x y v u A h1 h2 r1 r2 hp hq hu
    obtain rfl := h1; cases r1
    obtain ⟨l2, vs2, rfl, sq2, ds2⟩ := h2; cases r2; obtain ⟨its2, rv2, pl2, z2⟩ := I.list sq2
    exact RcNeAt.none_list pl2.isList (by omega)
  | .bl p, .non => by
    intro x y v u A h1 h2 r1 r2 hp hq hu
    obtain rfl := h1; cases r1
    obtain rfl := h2; cases r2
    exact RcNeAt.bool_none p
  | .bl p, .bl q => by
    intro x y v u A h1 h2 r1 r2 hp hq hu
    obtain rfl := h1; cases r1
    obtain rfl := h2; cases r2
    exact RcNeAt.bool_bool p q
  | .bl p, .int q => by
    intro x y v u A h1 h2 r1 r2 hp hq hu
    obtain rfl := h1; cases r1
    obtain rfl := h2; obtain ⟨t2, rfl⟩ := r2
    exact RcNeAt.bool_int p q t2
  | .bl p, .str q => by
    intro x y v u A h1 h2 r1 r2 hp hq hu
    obtain rfl := h1; cases r1
    obtain rfl := h2; obtain ⟨t2, rfl⟩ := r2
    exact RcNeAt.bool_str p q t2
  | .bl p, .tup q => by
    intro x y v u A h1 h2 r1 r2 hp hq hu
    obtain rfl := h1; cases r1
    obtain ⟨l2, vs2, rfl, sq2, ds2⟩ := h2; cases r2; obtain ⟨its2, rv2, pl2, z2⟩ := I.tuple sq2.sq
    exact RcNeAt.bool_tuple p (tupIs pl2) (by omega)
  | .bl p, .lst q => by
    intro x y v u A h1 h2 r1 r2 hp hq hu
    obtain rfl := h1; cases r1
    obtain ⟨l2, vs2, rfl, sq2, ds2⟩ := h2; cases r2; obtain ⟨its2, rv2, pl2, z2⟩ := I.list sq2
    exact RcNeAt.bool_list p pl2.isList (by omega)
  | .int p, .non => by
    intro x y v u A h1 h2 r1 r2 hp hq hu
    obtain rfl := h1; obtain ⟨t1, rfl⟩ := r1
    obtain rfl := h2; cases r2
    exact RcNeAt.int_none p t1
  | .int p, .bl q => by
    intro x y v u A h1 h2 r1 r2 hp hq hu
    obtain rfl := h1; obtain ⟨t1, rfl⟩ := r1
    obtain rfl := h2; cases r2
    exact RcNeAt.int_bool p t1 q
  | .int p, .int q => by
    intro x y v u A h1 h2 r1 r2 hp hq hu
    obtain rfl := h1; obtain ⟨t1, rfl⟩ := r1
    obtain rfl := h2; obtain ⟨t2, rfl⟩ := r2
    exact RcNeAt.int_int p t1 q t2
  | .int p, .str q => by
    intro x y v u A h1 h2 r1 r2 hp hq hu
    obtain rfl := h1; obtain ⟨t1, rfl⟩ := r1
    obtain rfl := h2; obtain ⟨t2, rfl⟩ := r2
    exact RcNeAt.int_str p t1 q t2
  | .int p, .tup q => by
    intro x y v u A h1 h2 r1 r2 hp hq hu
    obtain rfl := h1; obtain ⟨t1, rfl⟩ := r1
    obtain ⟨l2, vs2, rfl, sq2, ds2⟩ := h2; cases r2; obtain ⟨its2, rv2, pl2, z2⟩ := I.tuple sq2.sq
    exact RcNeAt.int_tuple p t1 (tupIs pl2) (by omega)
  | .int p, .lst q => by
    intro x y v u A h1 h2 r1 r2 hp hq hu
    obtain rfl := h1; obtain ⟨t1, rfl⟩ := r1
    obtain ⟨l2, vs2, rfl, sq2, ds2⟩ := h2; cases r2; obtain ⟨its2, rv2, pl2, z2⟩ := I.list sq2
    exact RcNeAt.int_list p t1 pl2.isList (by omega)
  | .str p, .non => by
    intro x y v u A h1 h2 r1 r2 hp hq hu
    obtain rfl := h1; obtain ⟨t1, rfl⟩ := r1
    obtain rfl := h2; cases r2
    exact RcNeAt.str_none p t1
  | .str p, .bl q => by
    intro x y v u A h1 h2 r1 r2 hp hq hu
    obtain rfl := h1; obtain ⟨t1, rfl⟩ := r1
    obtain rfl := h2; cases r2
    exact RcNeAt.str_bool p t1 q
  | .str p, .int q => by
    intro x y v u A h1 h2 r1 r2 hp hq hu
    obtain rfl := h1; obtain ⟨t1, rfl⟩ := r1
    obtain rfl := h2; obtain ⟨t2, rfl⟩ := r2
    exact RcNeAt.str_int p t1 q t2
  | .str p, .str q => by
    intro x y v u A h1 h2 r1 r2 hp hq hu
    obtain rfl := h1; obtain ⟨t1, rfl⟩ := r1
    obtain rfl := h2; obtain ⟨t2, rfl⟩ := r2
    exact RcNeAt.str_str p t1 q t2
  | .str p, .tup q => by
    intro x y v u A h1 h2 r1 r2 hp hq hu
    obtain rfl := h1; obtain ⟨t1, rfl⟩ := r1
    obtain ⟨l2, vs2, rfl, sq2, ds2⟩ := h2; cases r2; obtain ⟨its2, rv2, pl2, z2⟩ := I.tuple sq2.sq
    exact RcNeAt.str_tuple p t1 (tupIs pl2) (by omega)
  | .str p, .lst q => by
    intro x y v u A h1 h2 r1 r2 hp hq hu
    obtain rfl := h1; obtain ⟨t1, rfl⟩ := r1
    obtain ⟨l2, vs2, rfl, sq2, ds2⟩ := h2; cases r2; obtain ⟨its2, rv2, pl2, z2⟩ := I.list sq2
    exact RcNeAt.str_list p t1 pl2.isList (by omega)
  | .tup p, .non => by
    intro x y v u A h1 h2 r1 r2 hp hq hu
    obtain ⟨l1, vs1, rfl, sq1, ds1⟩ := h1; cases r1; obtain ⟨its1, rv1, pl1, z1⟩ := I.tuple sq1.sq
    obtain rfl := h2; cases r2
    exact RcNeAt.tuple_none (tupIs pl1) (by omega)
  | .tup p, .bl q => by
    intro x y v u A h1 h2 r1 r2 hp hq hu
    obtain ⟨l1, vs1, rfl, sq1, ds1⟩ := h1; cases r1; obtain ⟨its1, rv1, pl1, z1⟩ := I.tuple sq1.sq
    obtain rfl := h2; cases r2
    exact RcNeAt.tuple_bool q (tupIs pl1) (by omega)
  | .tup p, .int q => by
    intro x y v u A h1 h2 r1 r2 hp hq hu
    obtain ⟨l1, vs1, rfl, sq1, ds1⟩ := h1; cases r1; obtain ⟨its1, rv1, pl1, z1⟩ := I.tuple sq1.sq
    obtain rfl := h2; obtain ⟨t2, rfl⟩ := r2
    exact RcNeAt.tuple_int q t2 (tupIs pl1) (by omega)
  | .tup p, .str q => by
    intro x y v u A h1 h2 r1 r2 hp hq hu
    obtain ⟨l1, vs1, rfl, sq1, ds1⟩ := h1; cases r1; obtain ⟨its1, rv1, pl1, z1⟩ := I.tuple sq1.sq
    obtain rfl := h2; obtain ⟨t2, rfl⟩ := r2
    exact RcNeAt.tuple_str q t2 (tupIs pl1) (by omega)
  | .tup p, .tup q => by
    intro x y v u A h1 h2 r1 r2 hp hq hu
    obtain ⟨l1, vs1, rfl, sq1, ds1⟩ := h1; cases r1; obtain ⟨its1, rv1, pl1, z1⟩ := I.tuple sq1.sq
    obtain ⟨l2, vs2, rfl, sq2, ds2⟩ := h2; cases r2; obtain ⟨its2, rv2, pl2, z2⟩ := I.tuple sq2.sq
    have hl : s.heap.IsTuple l1 its1.toArray := tupIs pl1
    have hb : s.heap.IsTuple l2 its2.toArray := tupIs pl2
    have n1 : its1.toArray.size = p.length := by rw [List.size_toArray, ← rv1.length, ds1.length]
    have n2 : its2.toArray.size = q.length := by rw [List.size_toArray, ← rv2.length, ds2.length]
    have hu' : A.in1.units + min (D.depths p) (D.depths q) < cLine := by show A.units + 1 + _ < _; simp only [D.depth] at hu; omega
    have he : ∀ j (j1 : j < its1.toArray.size) (j2 : j < its2.toArray.size), EqAt A.in1 s its1.toArray[j] its2.toArray[j] (pairD p q j) := fun j j1 j2 => eqAt_Ds I p q vs1 vs2 its1 its2 A.in1 ds1 ds2 rv1 rv2 hp hq hu' j (by simpa using j1) (by simpa using j2)
    show RcNeAt A s (.ref l1) (.ref l2) (!D.eqvs p q)
    rw [← eqvs_eq p q, ← n1, ← n2]
    exact RcNeAt.tuples hl hb (by omega) he
  | .tup p, .lst q => by
    intro x y v u A h1 h2 r1 r2 hp hq hu
    obtain ⟨l1, vs1, rfl, sq1, ds1⟩ := h1; cases r1; obtain ⟨its1, rv1, pl1, z1⟩ := I.tuple sq1.sq
    obtain ⟨l2, vs2, rfl, sq2, ds2⟩ := h2; cases r2; obtain ⟨its2, rv2, pl2, z2⟩ := I.list sq2
    exact RcNeAt.tuple_list (tupIs pl1) pl2.isList (by omega)
  | .lst p, .non => by
    intro x y v u A h1 h2 r1 r2 hp hq hu
    obtain ⟨l1, vs1, rfl, sq1, ds1⟩ := h1; cases r1; obtain ⟨its1, rv1, pl1, z1⟩ := I.list sq1
    obtain rfl := h2; cases r2
    exact RcNeAt.list_none pl1.isList (by omega)
  | .lst p, .bl q => by
    intro x y v u A h1 h2 r1 r2 hp hq hu
    obtain ⟨l1, vs1, rfl, sq1, ds1⟩ := h1; cases r1; obtain ⟨its1, rv1, pl1, z1⟩ := I.list sq1
    obtain rfl := h2; cases r2
    exact RcNeAt.list_bool q pl1.isList (by omega)
  | .lst p, .int q => by
    intro x y v u A h1 h2 r1 r2 hp hq hu
    obtain ⟨l1, vs1, rfl, sq1, ds1⟩ := h1; cases r1; obtain ⟨its1, rv1, pl1, z1⟩ := I.list sq1
    obtain rfl := h2; obtain ⟨t2, rfl⟩ := r2
    exact RcNeAt.list_int q t2 pl1.isList (by omega)
  | .lst p, .str q => by
    intro x y v u A h1 h2 r1 r2 hp hq hu
    obtain ⟨l1, vs1, rfl, sq1, ds1⟩ := h1; cases r1; obtain ⟨its1, rv1, pl1, z1⟩ := I.list sq1
    obtain rfl := h2; obtain ⟨t2, rfl⟩ := r2
    exact RcNeAt.list_str q t2 pl1.isList (by omega)
  | .lst p, .tup q => by
    intro x y v u A h1 h2 r1 r2 hp hq hu
    obtain ⟨l1, vs1, rfl, sq1, ds1⟩ := h1; cases r1; obtain ⟨its1, rv1, pl1, z1⟩ := I.list sq1
    obtain ⟨l2, vs2, rfl, sq2, ds2⟩ := h2; cases r2; obtain ⟨its2, rv2, pl2, z2⟩ := I.tuple sq2.sq
    exact RcNeAt.list_tuple pl1.isList (tupIs pl2) (by omega)
  | .lst p, .lst q => by
    intro x y v u A h1 h2 r1 r2 hp hq hu
    obtain ⟨l1, vs1, rfl, sq1, ds1⟩ := h1; cases r1; obtain ⟨its1, rv1, pl1, z1⟩ := I.list sq1
    obtain ⟨l2, vs2, rfl, sq2, ds2⟩ := h2; cases r2; obtain ⟨its2, rv2, pl2, z2⟩ := I.list sq2
    have hl : s.heap.IsList l1 its1.toArray := pl1.isList
    have hb : s.heap.IsList l2 its2.toArray := pl2.isList
    have n1 : its1.toArray.size = p.length := by rw [List.size_toArray, ← rv1.length, ds1.length]
    have n2 : its2.toArray.size = q.length := by rw [List.size_toArray, ← rv2.length, ds2.length]
    have hu' : A.in1.units + min (D.depths p) (D.depths q) < cLine := by show A.units + 1 + _ < _; simp only [D.depth] at hu; omega
    have he : ∀ j (j1 : j < its1.toArray.size) (j2 : j < its2.toArray.size), EqAt A.in1 s its1.toArray[j] its2.toArray[j] (pairD p q j) := fun j j1 j2 => eqAt_Ds I p q vs1 vs2 its1 its2 A.in1 ds1 ds2 rv1 rv2 hp hq hu' j (by simpa using j1) (by simpa using j2)
    show RcNeAt A s (.ref l1) (.ref l2) (!D.eqvs p q)
    by_cases hsz : its1.toArray.size = its2.toArray.size
    · rw [← eqvs_same (by omega : p.length = q.length), ← n1]
      exact RcNeAt.lists hl hb hsz (by omega) he
    · rw [eqvs_other (by omega : p.length ≠ q.length)]
      exact RcNeAt.lists_lengths hl hb (by simpa using hsz) (by omega)
  | .dct _, _ => by
    intro x y v u A h1 h2 r1 r2 hp hq hu
    cases hp
  | .set _, _ => by
    intro x y v u A h1 h2 r1 r2 hp hq hu
    cases hp
  | .ref _, _ => by
    intro x y v u A h1 h2 r1 r2 hp hq hu
    cases hp
  | .fn _, _ => by
    intro x y v u A h1 h2 r1 r2 hp hq hu
    cases hp
  | .ty _, _ => by
    intro x y v u A h1 h2 r1 r2 hp hq hu
    cases hp
  | .non, .dct _ => by
    intro x y v u A h1 h2 r1 r2 hp hq hu
    cases hq
  | .bl _, .dct _ => by
    intro x y v u A h1 h2 r1 r2 hp hq hu
    cases hq
  | .int _, .dct _ => by
    intro x y v u A h1 h2 r1 r2 hp hq hu
    cases hq
  | .str _, .dct _ => by
    intro x y v u A h1 h2 r1 r2 hp hq hu
    cases hq
  | .tup _, .dct _ => by
    intro x y v u A h1 h2 r1 r2 hp hq hu
    cases hq
  | .lst _, .dct _ => by
    intro x y v u A h1 h2 r1 r2 hp hq hu
    cases hq
  | .non, .set _ => by
    intro x y v u A h1 h2 r1 r2 hp hq hu
    cases hq
  | .bl _, .set _ => by
    intro x y v u A h1 h2 r1 r2 hp hq hu
    cases hq
  | .int _, .set _ => by
    intro x y v u A h1 h2 r1 r2 hp hq hu
    cases hq
  | .str _, .set _ => by
    intro x y v u A h1 h2 r1 r2 hp hq hu
    cases hq
  | .tup _, .set _ => by
    intro x y v u A h1 h2 r1 r2 hp hq hu
    cases hq
  | .lst _, .set _ => by
    intro x y v u A h1 h2 r1 r2 hp hq hu
    cases hq
  | .non, .ref _ => by
    intro x y v u A h1 h2 r1 r2 hp hq hu
    cases hq
  | .bl _, .ref _ => by
    intro x y v u A h1 h2 r1 r2 hp hq hu
    cases hq
  | .int _, .ref _ => by
    intro x y v u A h1 h2 r1 r2 hp hq hu
    cases hq
  | .str _, .ref _ => by
    intro x y v u A h1 h2 r1 r2 hp hq hu
    cases hq
  | .tup _, .ref _ => by
    intro x y v u A h1 h2 r1 r2 hp hq hu
    cases hq
  | .lst _, .ref _ => by
    intro x y v u A h1 h2 r1 r2 hp hq hu
    cases hq
  | .non, .fn _ => by
    intro x y v u A h1 h2 r1 r2 hp hq hu
    cases hq
  | .bl _, .fn _ => by
    intro x y v u A h1 h2 r1 r2 hp hq hu
    cases hq
  | .int _, .fn _ => by
    intro x y v u A h1 h2 r1 r2 hp hq hu
    cases hq
  | .str _, .fn _ => by
    intro x y v u A h1 h2 r1 r2 hp hq hu
    cases hq
  | .tup _, .fn _ => by
    intro x y v u A h1 h2 r1 r2 hp hq hu
    cases hq
  | .lst _, .fn _ => by
    intro x y v u A h1 h2 r1 r2 hp hq hu
    cases hq
  | .non, .ty _ => by
    intro x y v u A h1 h2 r1 r2 hp hq hu
    cases hq
  | .bl _, .ty _ => by
    intro x y v u A h1 h2 r1 r2 hp hq hu
    cases hq
  | .int _, .ty _ => by
    intro x y v u A h1 h2 r1 r2 hp hq hu
    cases hq
  | .str _, .ty _ => by
    intro x y v u A h1 h2 r1 r2 hp hq hu
    cases hq
  | .tup _, .ty _ => by
    intro x y v u A h1 h2 r1 r2 hp hq hu
    cases hq
  | .lst _, .ty _ => by
    intro x y v u A h1 h2 r1 r2 hp hq hu
    cases hq
end
end Ly
/-! Ly: operators. -/
namespace Ly
open PySem PySem.Spec PyProof.Rows L2 PySem.SeqAt

/-- a new object, tracked -/
abbrev Wd.new (W : Wd) (p : Addr) (o : HO) : Wd := ⟨W.ρ, W.F, upd W.H p o⟩
section
variable {K : PySem.W.Frag} {mg : Str → Option Value} {W W' : Wd} {S : Sto} {d : D} {v : V} {p : Addr} {o : HO} {xs : List D} {vs : List V}
theorem Ext.new (hn : W.H p = none) : Ext W (W.new p o) where
  keep := fun a u h _ => by show upd W.H p o a = _; rw [upd_ne (fun e => by subst e; rw [hn] at h; cases h)]; exact h
  pre := List.prefix_refl _
  fsub := fun _ h => h
  fnew := fun _ h => .inl h
  dom := fun a h => by
    show upd W.H p o a ≠ none
    by_cases e : a = p
    · subst e; rw [upd_same]; simp
    · rw [upd_ne e]; exact h
  rnew := fun _ h => .inl h
theorem RepO.ext (x : Ext W W') (hs : ∀ a ∈ W.ρ, W.F a) {a : Addr} {mo : MO} (e : ∀ u, W.H a = some u → W'.H a = some u) (h : RepO K mg W a mo) : RepO K mg W' a mo := by
  cases mo with
  | lst xs => obtain ⟨vs, h1, h2⟩ := h; exact ⟨vs, e _ h1, h2.ext x hs⟩
  | dct kvs => exact h
  | ins c fs => exact h
  | dead => trivial
theorem Rep.new (R : Rep K mg W S) (hn : W.H p = none) : Rep K mg (W.new p o) S where
  len := R.len
  nd := R.nd
  sub := R.sub
  dom := fun a h => (Ext.new hn).dom a (R.dom a h)
  obj := fun n mo a h1 h2 => (R.obj n mo a h1 h2).ext (Ext.new hn) R.sub fun u e => by
    show upd W.H p o a = _
    rw [upd_ne (fun z => by subst z; rw [hn] at e; cases e)]; exact e
theorem Rep.nF (R : Rep K mg W S) (hn : W.H p = none) : ¬ W.F p := fun h => R.dom p h hn
theorem new_lst (R : Rep K mg W S) (hn : W.H p = none) (r : RepDs K mg W xs vs) : RepD K mg (W.new p (.lst vs)) (.lst xs) (.ref p) :=
  .lst (.inl ⟨.inl upd_same, R.nF hn⟩) (r.ext (Ext.new hn) R.sub)
theorem new_tup (R : Rep K mg W S) (hn : W.H p = none) (r : RepDs K mg W xs vs) : RepD K mg (W.new p (.tup vs)) (.tup xs) (.ref p) :=
  .tup (.inl ⟨.inl upd_same, R.nF hn⟩) (r.ext (Ext.new hn) R.sub)
theorem At.lst_inv (h : At K mg W (.lst xs) v) : ∃ a vs, v = .ref a ∧ SqL K W.H a vs ∧ RepDs K mg W xs vs := h
theorem At.tup_inv (h : At K mg W (.tup xs) v) : ∃ a vs, v = .ref a ∧ TAt K W a vs ∧ RepDs K mg W xs vs := h
theorem TAt.repD {a : Addr} (h : TAt K W a vs) (r : RepDs K mg W xs vs) : RepD K mg W (.tup xs) (.ref a) := .tup h r
end

/-- what follows a value that is made -/
def Then (K : PySem.W.Frag) (mg : Str → Option Value) (W : Wd) (S : Sto) (d : D) (Q : VK) : Prop :=
  ∀ W' v, Ext W W' → Rep K mg W' S → RepD K mg W' d v → Q v W'.H
section
variable {K : PySem.W.Frag} {mg : Str → Option Value} {W : Wd} {S : Sto} {Q : VK} {xs : List D} {vs : List V}
theorem Then.here {d : D} {v : V} (q : Then K mg W S d Q) (R : Rep K mg W S) (r : RepD K mg W d v) : Q v W.H := q W v (Ext.refl W) R r
theorem Then.lst (q : Then K mg W S (.lst xs) Q) (R : Rep K mg W S) (r : RepDs K mg W xs vs) (p : Addr) (hn : W.H p = none) : Q (.ref p) (upd W.H p (.lst vs)) :=
  q (W.new p (.lst vs)) _ (Ext.new hn) (R.new hn) (new_lst R hn r)
theorem Then.tup (q : Then K mg W S (.tup xs) Q) (R : Rep K mg W S) (r : RepDs K mg W xs vs) (p : Addr) (hn : W.H p = none) : Q (.ref p) (upd W.H p (.tup vs)) :=
  q (W.new p (.tup vs)) _ (Ext.new hn) (R.new hn) (new_tup R hn r)
end

def bopO : Bop → Operator
  | .add => .Add | .sub => .Sub | .mul => .Mult | .fdiv => .FloorDiv | .mod => .Mod | .pow => .Pow
def copO : Cop → CmpOp
  | .eq => .Eq | .ne => .NotEq | .lt => .Lt | .le => .LtE | .gt => .Gt | .ge => .GtE | .is_ => .Is | .isnot => .IsNot | .in_ => .In | .notin => .NotIn

/-! ### a tuple, a list, a text, so many times -/
section
variable {X : Cx} {pins : List (Addr × Obj)} {σ : L2.St} {H : Hp} {s : Shared}
theorem tupleRepFits {n : Nat} {k : Int} (hk : 2 ≤ k) (hz : n * k.toNat ≤ sizeLine) : ((n : Nat) : Int) * k ≤ 16777216 := by
  have e : ((n * k.toNat : Nat) : Int) = (n : Int) * k := by rw [Int.natCast_mul, Int.toNat_of_nonneg (by omega)]
  rw [sizeLine_eq] at hz
  omega
theorem tup_times {l : Addr} {xs : List V} {k : Int} {t : Tok} {Q : VK} (I : Inv X pins σ H s) (hT : SqT X.K H l xs) (hne : xs ≠ []) (h1 : 2 ≤ k) (h2 : k < 2 ^ 62) (hz : xs.length * k.toNat ≤ sizeLine)
    (q : ∀ p, H p = none → Q (.ref p) (upd H p (.tup (List.replicate k.toNat xs).flatten))) : wpAny (model X.prog X.w) X.A (binaryOp .Mult (.ref l) (.int k t)) (EP X pins σ Q) X.xe s := by
  obtain ⟨its, r, ⟨⟨cls, dd, data, sl⟩, ho, hc, n, hd⟩, hs⟩ := I.tuple hT
  simp only at hc hd
  subst hc hd
  have hle : its.length = xs.length := r.length.symm
  obtain ⟨i0, ir, rfl⟩ : ∃ i0 ir, its = i0 :: ir := by
    cases its with
    | nil => exact absurd (List.eq_nil_of_length_eq_zero hle.symm) hne
    | cons a b => exact ⟨a, b, rfl⟩
  generalize hits : i0 :: ir = its at *
  have hem : its.toArray.isEmpty = false := by rw [← hits]; rfl
  have hsz0 : its.toArray.size = xs.length := by rw [List.size_toArray, hle]
  have hm := tupleRepFits h1 hz
  rw [← hsz0] at hm
  have flen : (List.replicate k.toNat its).flatten.length ≤ sizeLine := by
    rw [PyProof.Rows.lm_len_rep_flat, hle, Nat.mul_comm]; exact hz
  have d0 : (decide (k < -(2 ^ 63)) || decide (k ≥ 2 ^ 63)) = false := by simp; omega
  have d1 : (its.toArray.isEmpty || k == 1) = false := by rw [hem]; simp; omega
  have d2 : (decide (k ≤ 0) || its.toArray.isEmpty) = false := by rw [hem]; simp; omega
  have d4 : Builtin.Tuple.tupleTooMany (((its.toArray.size : Nat) : Int) * k) = false := by
    unfold Builtin.Tuple.tupleTooMany
    rw [sizeLine_eq]
    exact decide_eq_false (by omega)
  have M := tuple_mulW l its.toArray n dd sl k t d0 d1 d2 (by omega) d4 (by rw [size_rep, List.size_toArray]; exact flen)
  refine wpAny_binaryOp_repeat_ref (T := "tuple") (U := "int") (by decide) ⟨_, ho, rfl⟩ (fun s' => typeIs_int s' k t) noFill_tuple_mul F.fills_int_mul F.slot_int_rmul repeat_tuple F.slot_int_index.lookup
    (call_meets F.slot_int_rmul (typeIs_int s k t) F.entry_int_rmul (F.args_int_rmul_2 _ _) (int_rmul_tuple k t l its.toArray n dd sl)
      ⟨ho, rfl, ⟨_, ho, rfl⟩, call_meets F.slot_tuple_mul ⟨_, ho, rfl⟩ F.entry_tuple_mul (F.args_tuple_mul_2 _ _) M ⟨ho, ?_⟩⟩)
  rw [size_rep]
  refine ⟨.ref s.heap.objs.size, _, I.laid (t' := s.toks) (o := .tup (List.replicate k.toNat xs).flatten) (fun b ob q => Heap.get?_push_of_some _ q) (Nat.le_refl _) ?_, rfl, q _ (I.hok.fresh (Nat.le_refl _))⟩
  exact ⟨by rw [PyProof.Rows.lm_len_rep_flat, Nat.mul_comm]; exact hz, _, r.rep k.toNat, IsTup.new _ _⟩
end

/-! ### binary operators -/
theorem listRepW (l : Addr) (items : Array Value) (n : Nat) (dd : Option Addr) (sl : Array (Option Value)) (x : Int) (u : Tok) (c0 : ¬(!Builtin.List.listFitsIndex x) = true) (c1 : ¬items.size * x.toNat > (2 ^ 63 - 1) / 8) (c2 : ¬Builtin.List.listTooLong (items.size * x.toNat) = true)
    (hsz : (List.foldl (fun x1 x2 => x1 ++ x2) #[] (List.replicate (if items.isEmpty = true then 0 else x.toNat) items)).size ≤ sizeLine) :
    Meets (Builtin.«list.__mul__» ⟨[.ref l, .int x u], []⟩) (fun _ R s => s.heap.get? l = some { cls := .type "list", dict := dd, data := .seq items n, slots := sl } ∧
      R (.ok (.ret (Value.ref s.heap.objs.size))) { s with heap := s.heap.push { cls := Value.type "list", data := Data.seq (List.foldl (fun x1 x2 => x1 ++ x2) #[] (List.replicate (if items.isEmpty = true then 0 else x.toNat) items)) }, toks := s.toks }) :=
  .of_wp fun prog w A R s h => by
    obtain ⟨hp, g, d, tk, os⟩ := s
    obtain ⟨hl, h⟩ := h
    have f1 := AutoSeq1.idx_int
    wp_walk using AutoSeq1.wpAny_loadPart' hl
    refine wpAny_ite_false (decide_eq_false (Nat.not_lt.mpr hsz)) ?_
    wp_walk using AutoSeq1.wpAny_loadPart' hl
    exact ⟨_, rfl, h⟩
theorem intRmulList (a : Int) (t : Tok) (l : Addr) (items : Array Value) (n : Nat) (dd : Option Addr) (sl : Array (Option Value)) :
    Meets (Builtin.«int.__rmul__» ⟨[.int a t, .ref l], []⟩) (fun _ R s => s.heap.get? l = some { cls := .type "list", dict := dd, data := .seq items n, slots := sl } ∧ R (.ok (.ret Value.notImplemented)) s) :=
  .of_wp fun prog w A R s h => by
    obtain ⟨hp, g, d, tk, os⟩ := s
    obtain ⟨hl, h⟩ := h
    wp_walk using AutoSeq1.wpAny_loadPart' hl
    exact ⟨_, rfl, h⟩
section
variable {X : Cx} {pins : List (Addr × Obj)} {σ : L2.St} {H : Hp} {s : Shared}
theorem list_times {l : Addr} {xs : List V} {k : Int} {t : Tok} {Q : VK} (I : Inv X pins σ H s) (hT : SqL X.K H l xs) (h1 : -(2 ^ 62) < k) (h2 : k < 2 ^ 62) (hz : xs.length * k.toNat ≤ sizeLine)
    (q : ∀ p, H p = none → Q (.ref p) (upd H p (.lst (List.replicate k.toNat xs).flatten))) : wpAny (model X.prog X.w) X.A (binaryOp .Mult (.ref l) (.int k t)) (EP X pins σ Q) X.xe s := by
  obtain ⟨its, r, ⟨⟨cls, dd, data, sl⟩, n, ho, hc, _, hd⟩, hs⟩ := I.list hT
  simp only at hc hd
  subst hc hd
  have hle : its.length = xs.length := r.length.symm
  have flat : (if its.toArray.isEmpty = true then 0 else k.toNat) = k.toNat ∨ its = [] := by
    cases its with
    | nil => exact .inr rfl
    | cons a b => exact .inl (if_neg (by simp))
  have hnew : List.foldl (fun x1 x2 => x1 ++ x2) #[] (List.replicate (if its.toArray.isEmpty = true then 0 else k.toNat) its.toArray) = (List.replicate k.toNat its).flatten.toArray := by
    rw [size_rep]
    rcases flat with e | e
    · rw [e]
    · subst e; simp
  have hlen : its.toArray.size * k.toNat ≤ sizeLine := by rw [List.size_toArray, hle]; exact hz
  have d1 : ¬ its.toArray.size * k.toNat > (2 ^ 63 - 1) / 8 := by
    have : (sizeLine : Nat) ≤ (2 ^ 63 - 1) / 8 := by decide
    omega
  have d0 : ¬ (!Builtin.List.listFitsIndex k) = true := by
    rw [fitsIndex_both (by omega) (by omega)]
    exact Bool.false_ne_true
  have d2 : ¬ Builtin.List.listTooLong (its.toArray.size * k.toNat) = true := by
    rw [notLongL hlen]
    exact Bool.false_ne_true
  have flen : (List.replicate k.toNat xs).flatten.length ≤ sizeLine := by
    rw [PyProof.Rows.lm_len_rep_flat, Nat.mul_comm]; exact hz
  have M := listRepW l its.toArray n dd sl k t d0 d1 d2 (by rw [hnew, List.size_toArray, PyProof.Rows.lm_len_rep_flat, hle, Nat.mul_comm]; exact hz)
  refine wpAny_binaryOp_repeat_ref (T := "list") (U := "int") (by decide) ⟨_, ho, rfl⟩ (fun s' => typeIs_int s' k t) noFill_list_mul F.fills_int_mul F.slot_int_rmul repeat_list F.slot_int_index.lookup
    (call_meets F.slot_int_rmul (typeIs_int s k t) F.entry_int_rmul (F.args_int_rmul_2 _ _) (intRmulList k t l its.toArray n dd sl)
      ⟨ho, rfl, ⟨_, ho, rfl⟩, call_meets F.slot_list_mul ⟨_, ho, rfl⟩ F.entry_list_mul (F.args_list_mul_2 _ _) M ⟨ho, ?_⟩⟩)
  rw [hnew]
  exact ⟨.ref _, _, I.lnew (t' := s.toks) (r.rep k.toNat) flen, rfl, q _ I.fresh⟩
theorem list_plus {l b : Addr} {xs ys : List V} {Q : VK} (I : Inv X pins σ H s) (hT : SqL X.K H l xs) (hB : SqL X.K H b ys) (hz : xs.length + ys.length ≤ sizeLine)
    (q : ∀ p, H p = none → Q (.ref p) (upd H p (.lst (xs ++ ys)))) : wpAny (model X.prog X.w) X.A (binaryOp .Add (.ref l) (.ref b)) (EP X pins σ Q) X.xe s := by
  obtain ⟨its, r, ⟨⟨cls, dd, data, sl⟩, n, ho, hc, _, hd⟩, hs⟩ := I.list hT
  obtain ⟨its2, r2, ⟨⟨cls2, dd2, data2, sl2⟩, n2, ho2, hc2, _, hd2⟩, hs2⟩ := I.list hB
  simp only at hc hd hc2 hd2
  subst hc hd hc2 hd2
  have e1 := r.length
  have e2 := r2.length
  have ea : its.toArray ++ its2.toArray = (its ++ its2).toArray := by simp
  refine concat_meets ⟨_, ho, rfl⟩ ⟨_, ho2, rfl⟩ noFill_list_add seq_list_add F.slot_list_add F.entry_list_add (F.args_list_add_2 _ _) (list_addW l b its.toArray its2.toArray n n2 dd dd2 sl sl2 (by rw [List.size_toArray, List.size_toArray]; omega)) ⟨ho, ho2, ?_⟩
  rw [ea]
  exact ⟨.ref _, _, I.lnew (t' := s.toks) (r.append r2) (by rw [List.length_append]; omega), rfl, q _ I.fresh⟩
theorem txt_times (z : Str) (k : Int) : Txt.mul z k = repS z k := by
  unfold Txt.mul repS
  apply Str.ext'
  apply Array.toList_inj.mp
  have foldE : ∀ m : Nat, (List.replicate m z.cps).foldl (fun x1 x2 => x1 ++ x2) #[] = ((List.replicate m z.cps.toList).flatten).toArray := fun m => by
    have e : List.replicate m z.cps = (List.replicate m z.cps.toList).map List.toArray := by simp
    rw [e]
    have g : ∀ (l : List (List Nat)) (acc : List Nat), (l.map List.toArray).foldl (fun x1 x2 => x1 ++ x2) acc.toArray = (acc ++ l.flatten).toArray := by
      intro l
      induction l with
      | nil => intro acc; simp
      | cons a r ih => intro acc; rw [List.map_cons, List.foldl_cons, List.append_toArray, ih]; simp
    have := g (List.replicate m z.cps.toList) []
    simpa using this
  split
  · rename_i h
    have : k.toNat = 0 := by omega
    rw [this]; rfl
  · split
    · rename_i h1 h2
      rw [Bool.or_eq_true] at h2
      rcases h2 with h2 | h2
      · have : k = 1 := by simpa using h2
        subst this
        simp
      · have hz : z.cps.toList = [] := by
          have : z.length = 0 := by simpa using h2
          exact List.eq_nil_of_length_eq_zero (by simpa [Str.length] using this)
        rw [hz]; simp
    · rw [foldE]
/-- a op b by the trees -/
def rBin (K : PySem.W.Frag) (mg : Str → Option Value) (o : Bop) : R2 := fun x y H Q => ∃ W S a b d, W.H = H ∧ Rep K mg W S ∧ At K mg W a x ∧ At K mg W b y ∧ binop o a b = some d ∧ Then K mg W S d Q
theorem mulOk_ok {i j : Int} (h : mulOk i j = true) : IntMulOk i j := by
  unfold mulOk at h
  simp only [Bool.or_eq_true, decide_eq_true_eq] at h
  rcases h with (h | h) | h
  · exact CMul.ok (.inl ⟨by omega, by omega⟩)
  · exact CMul.ok (.inr ⟨by omega, by omega⟩)
  · exact CMulW.ok h
theorem op_bin (o : Bop) (mg : Str → Option Value) : OpR X (binaryOp (bopO o)) (rBin X.K mg o) := by
  intro pins s σ H x y v u Q I rx ry h
  obtain ⟨W, S, a, b, d, rfl, R, h1, h2, e, q⟩ := h
  unfold binop at e
  split at e
  · obtain rfl := h1; obtain rfl := h2; cases e
    exact op_add pins s σ W.H _ _ v u Q I rx ry ⟨_, _, rfl, rfl, q.here R (.int _)⟩
  · obtain rfl := h1; obtain rfl := h2
    split at e
    · rename_i hz; cases e
      exact op_add_str pins s σ W.H _ _ v u Q I rx ry ⟨_, _, rfl, rfl, by rw [← line_eq]; exact hz, q.here R (.str _)⟩
    · cases e
  · obtain ⟨p, vs, rfl, t1, r1⟩ := h1
    obtain ⟨p', vs', rfl, t2, r2⟩ := h2
    split at e
    · rename_i hz; cases e
      have l1 := r1.length
      have l2 := r2.length
      refine op_catA pins s σ W.H _ _ v u Q I rx ry ⟨_, _, _, _, rfl, rfl, t1.sq, t2.sq, by rw [← line_eq]; omega, fun e => ?_, fun _ e => ?_, fun _ _ p hn => ?_⟩
      · subst e
        cases r1
        exact q.here R (.tup t2 r2)
      · subst e
        cases r2
        rw [List.append_nil] at q
        exact q.here R (.tup t1 r1)
      · exact q.tup R (r1.append r2) p hn
    · cases e
  · obtain ⟨p, vs, rfl, t1, r1⟩ := h1
    obtain ⟨p', vs', rfl, t2, r2⟩ := h2
    split at e
    · rename_i hz; cases e
      have l1 := r1.length
      have l2 := r2.length
      cases rx; cases ry
      exact list_plus I t1 t2 (by rw [← line_eq]; omega) fun p hn => q.lst R (r1.append r2) p hn
    · cases e
  · obtain rfl := h1; obtain rfl := h2; cases e
    exact op_sub pins s σ W.H _ _ v u Q I rx ry ⟨_, _, rfl, rfl, q.here R (.int _)⟩
  · obtain rfl := h1; obtain rfl := h2
    split at e
    · rename_i hz; cases e
      obtain ⟨t, rfl⟩ := rx
      obtain ⟨t', rfl⟩ := ry
      exact mul_int ⟨.int _, W.H, I.tok _, ⟨_, rfl⟩, q.here R (.int _)⟩ (mulOk_ok hz)
    · cases e
  · obtain ⟨p, vs, rfl, t1, r1⟩ := h1; obtain rfl := h2
    split at e
    · rename_i hz; cases e
      obtain ⟨z1, z2, z3, z4⟩ := hz
      have l1 := r1.length
      cases rx
      obtain ⟨t', rfl⟩ := ry
      exact tup_times I t1.sq (fun e => by subst e; exact z3 (List.eq_nil_of_length_eq_zero l1)) z1 z2 (by rw [← l1, ← line_eq]; exact z4) fun p hn => q.tup R (r1.rep _) p hn
    · cases e
  · obtain ⟨p, vs, rfl, t1, r1⟩ := h1; obtain rfl := h2
    split at e
    · rename_i hz; cases e
      obtain ⟨z1, z4⟩ := hz
      have l1 := r1.length
      cases rx
      obtain ⟨t', rfl⟩ := ry
      exact list_times I t1 (by omega) (by omega) (by rw [← l1, ← line_eq]; exact z4) fun p hn => q.lst R (r1.rep _) p hn
    · cases e
  · obtain rfl := h1; obtain rfl := h2
    split at e
    · rename_i z k hz; cases e
      obtain ⟨z1, z4⟩ := hz
      obtain ⟨t, rfl⟩ := rx
      obtain ⟨t', rfl⟩ := ry
      rw [line_eq, sizeLine_eq] at z4
      refine SB.mul ⟨by simp; omega, fun hk _ => ?_, fun hk _ => ?_⟩ fun t' k' => ⟨.str _, W.H, I.tok _, ⟨_, by rw [txt_times]⟩, q.here R (.str _)⟩
      · have hk : 1 ≤ k := by omega
        have a1 : (z.length : Int) * k ≤ 16777216 := by
          have e : ((z.length * k.toNat : Nat) : Int) = (z.length : Int) * k := by rw [Int.natCast_mul, Int.toNat_of_nonneg (by omega)]
          omega
        have a2 : (z.length : Int) ≤ (2 ^ 63 - 1) / k := by
          rw [Int.le_ediv_iff_mul_le (by omega)]
          omega
        omega
      · unfold Builtin.Str.tooLong
        rw [sizeLine_eq]
        simp; omega
    · cases e
  · obtain rfl := h1; obtain rfl := h2
    split at e
    · rename_i hz; cases e
      unfold divOk at hz
      simp only [Bool.and_eq_true, Bool.or_eq_true, decide_eq_true_eq] at hz
      obtain ⟨z1, z2 | z2⟩ := hz
      · exact op_fdiv pins s σ W.H _ _ v u Q I rx ry ⟨_, _, rfl, rfl, ⟨z1, z2⟩, q.here R (.int _)⟩
      · exact op_fdivW pins s σ W.H _ _ v u Q I rx ry ⟨_, _, rfl, rfl, ⟨z1, z2⟩, q.here R (.int _)⟩
    · cases e
  · obtain rfl := h1; obtain rfl := h2
    split at e
    · rename_i hz; cases e
      exact op_mod pins s σ W.H _ _ v u Q I rx ry ⟨_, _, rfl, rfl, hz, q.here R (.int _)⟩
    · cases e
  · obtain rfl := h1; obtain rfl := h2
    split at e
    · rename_i hz; cases e
      unfold powOk at hz
      simp only [Bool.and_eq_true, decide_eq_true_eq] at hz
      exact op_pow pins s σ W.H _ _ v u Q I rx ry ⟨_, _, rfl, rfl, ⟨hz.1.1, by have := hz.1.2; omega, hz.2⟩, q.here R (.int _)⟩
    · cases e
  · cases e
end
end Ly
/-! Ly: comparisons. -/
namespace Ly
open PySem PySem.Spec PyProof.Rows L2 PySem.SeqAt Ob
open PySem.AutoSeq1 (wpAny_loadPart')
open PySem.MeetsSeq PySem.MeetsSeq2 PySem.MeetsSeq3

/-! ### < of tuples: the first unequal pair alone is asked -/
theorem tupLtFirst (l b : Addr) (items items2 : Array Value) (n n2 : Nat) (dd dd2 : Option Addr) (sl sl2 : Array (Option Value)) (e r : Nat → Bool) :
    Meets (Builtin.«tuple.__lt__» ⟨[.ref l, .ref b], []⟩)
      (fun A R s => s.heap.get? l = some { cls := .type "tuple", dict := dd, data := .seq items n, slots := sl } ∧ s.heap.get? b = some { cls := .type "tuple", dict := dd2, data := .seq items2 n2, slots := sl2 } ∧
        (∀ j (h1 : j < items.size) (h2 : j < items2.size), (∀ i, i < j → e i = true) → EqAt A.in1 s items[j] items2[j] (e j)) ∧
        (∀ j (h1 : j < items.size) (h2 : j < items2.size), (∀ i, i < j → e i = true) → e j = false → RcOp .Lt A.in1 s items[j] items2[j] (r j)) ∧
        R (.ok (.ret (.bool (lexAt e r (decide (items.size < items2.size)) 0 (min items.size items2.size))))) s) :=
  .of_wp fun prog w A R s h => by
    obtain ⟨hp, g, d, tk, os⟩ := s; obtain ⟨hl, hb, he, hr, h⟩ := h
    have f2 := AutoSeq1.sub_tuple_tuple
    have hZ : (items.toList.zip items2.toList).length = min items.size items2.size := by simp
    wp_walk using wpAny_loadPart' hl, wpAny_loadPart' hb, wpAny_forIn_list _ (fun rest b s' => b.1 = none ∧ s' = ⟨hp, g, d, tk, os⟩ ∧ ∃ i, rest = (items.toList.zip items2.toList).drop i ∧ (∀ k, k < i → e k = true) ∧
      R (.ok (.ret (.bool (lexAt e r (decide (items.size < items2.size)) i (min items.size items2.size - i))))) ⟨hp, g, d, tk, os⟩) _
    case turn =>
      rintro ⟨y, x⟩ rest b s' ⟨hb', rfl, i, hz, hall, hR⟩
      have hlt : i < (items.toList.zip items2.toList).length := by
        rcases Nat.lt_or_ge i (items.toList.zip items2.toList).length with h' | h'
        · exact h'
        · rw [List.drop_of_length_le h'] at hz; cases hz
      have hm : i < min items.size items2.size := hZ ▸ hlt
      have h1 : i < items.size := Nat.lt_of_lt_of_le hm (Nat.min_le_left _ _)
      have h2 : i < items2.size := Nat.lt_of_lt_of_le hm (Nat.min_le_right _ _)
      rw [List.drop_eq_getElem_cons hlt] at hz
      injection hz with hyx hrest
      have hy : y = items[i] := by have := congrArg Prod.fst hyx; simpa using this
      have hx : x = items2[i] := by have := congrArg Prod.snd hyx; simpa using this
      subst hy hx
      rw [show min items.size items2.size - i = (min items.size items2.size - (i + 1)) + 1 by omega, lexAt_succ] at hR
      refine wpAny_bind (he i h1 h2 hall prog w _ _ ?_)
      cases hei : e i with
      | true =>
        rw [hei, if_pos rfl] at hR
        wp_walk
        exact ⟨rfl, rfl, i + 1, hrest, fun k hk => by rcases Nat.lt_succ_iff_lt_or_eq.mp hk with z | z; exact hall k z; rw [z]; exact hei, hR⟩
      | false =>
        rw [hei, if_neg Bool.false_ne_true] at hR
        have hri := hr i h1 h2 hall hei prog w
        wp_walk using hri
        exact ⟨_, rfl, by simpa using hR⟩
    case fin =>
      rintro ⟨b1, b2⟩ s' ⟨hb', rfl, i, hz, hall, hR⟩
      simp only at hb'
      subst hb'
      have hge : min items.size items2.size ≤ i := by
        rcases Nat.lt_or_ge i (items.toList.zip items2.toList).length with h' | h'
        · rw [List.drop_eq_getElem_cons h'] at hz; cases hz
        · exact hZ ▸ h'
      rw [Nat.sub_eq_zero_of_le hge, lexAt_zero] at hR
      wp_walk
      exact ⟨_, rfl, by simpa [Builtin.Tuple.tupleCompareSizes] using hR⟩
    case h =>
      exact ⟨rfl, rfl, 0, rfl, fun k hk => absurd hk (Nat.not_lt_zero k), by simpa using h⟩
theorem tuples_ltF {A : Around} {s : Shared} {l b : Addr} {items items2 : Array Value} {e r : Nat → Bool} (hl : s.heap.IsTuple l items) (hb : s.heap.IsTuple b items2) (hu : A.units < cLine)
    (he : ∀ j (h1 : j < items.size) (h2 : j < items2.size), (∀ i, i < j → e i = true) → EqAt A.in1 s items[j] items2[j] (e j))
    (hr : ∀ j (h1 : j < items.size) (h2 : j < items2.size), (∀ i, i < j → e i = true) → e j = false → RcOp .Lt A.in1 s items[j] items2[j] (r j)) :
    RcOp .Lt A s (.ref l) (.ref b) (lexAt e r (decide (items.size < items2.size)) 0 (min items.size items2.size)) := fun prog w E Q h => by
  obtain ⟨⟨cls, dd, data, sl⟩, ho, hc, n, hd⟩ := id hl
  obtain ⟨⟨cls2, dd2, data2, sl2⟩, ho2, hc2, n2, hd2⟩ := id hb
  simp only at hc hd hc2 hd2
  subst hc hd hc2 hd2
  have M := tupLtFirst l b items items2 n n2 dd dd2 sl sl2 e r
  exact richCompare_meets_room (op := .Lt) ⟨_, ho, rfl⟩ ⟨_, ho2, rfl⟩ F.slot_tuple_lt F.entry_tuple_lt (F.args_tuple_lt_2 _ _) M ⟨ho, ho2, he, hr, ⟨(fun x => nomatch x), h⟩⟩ hu

def ltPair (xs ys : List D) (j : Nat) : Bool := match xs[j]?, ys[j]? with
  | some x, some y => D.lt x y
  | _, _ => false
theorem lex_lts : ∀ (xs ys : List D) , lexAt (pairD xs ys) (ltPair xs ys) (decide (xs.length < ys.length)) 0 (min xs.length ys.length) = D.lts xs ys := by
  have g : ∀ (xs ys xs0 ys0 : List D) (z : Bool) (i : Nat), xs = xs0.drop i → ys = ys0.drop i → (z = decide (xs.length < ys.length)) → lexAt (pairD xs0 ys0) (ltPair xs0 ys0) z i (min xs.length ys.length) = D.lts xs ys := by
    intro xs
    induction xs with
    | nil =>
      intro ys xs0 ys0 z i h1 h2 hz
      cases ys with
      | nil => rw [hz]; rfl
      | cons y ys => rw [hz]; simp [lexAt_zero, D.lts]
    | cons x xs ih =>
      intro ys xs0 ys0 z i h1 h2 hz
      cases ys with
      | nil => rw [hz]; simp [lexAt_zero, D.lts]
      | cons y ys =>
        have gx : xs0[i]? = some x := by
          have := congrArg (fun l => l[0]?) h1
          simpa using this.symm
        have gy : ys0[i]? = some y := by
          have := congrArg (fun l => l[0]?) h2
          simpa using this.symm
        have e1 : pairD xs0 ys0 i = D.eqv x y := by simp [pairD, gx, gy]
        have e2 : ltPair xs0 ys0 i = D.lt x y := by simp [ltPair, gx, gy]
        rw [List.length_cons, List.length_cons, Nat.succ_min_succ, lexAt_succ, e1, e2, D.lts]
        have d1 : xs = xs0.drop (i + 1) := by
          have := congrArg List.tail h1
          simpa using this
        have d2 : ys = ys0.drop (i + 1) := by
          have := congrArg List.tail h2
          simpa using this
        rw [ih ys xs0 ys0 z (i + 1) d1 d2 (by rw [hz]; simp)]
  intro xs ys
  exact g xs ys xs ys _ 0 (by simp) (by simp) rfl

section
variable {X : Cx} {pins : List (Addr × Obj)} {σ : L2.St} {s : Shared} {mg : Str → Option Value} {W : Wd}
theorem plain_of_ltOk : ∀ (a b : D), D.ltOk a b = true → notRef a = true ∧ notRef b = true := by
  intro a b h
  cases a <;> cases b <;> first | exact ⟨rfl, rfl⟩ | (cases h; done)
mutual
theorem rcLt_D (I : Inv X pins σ W.H s) : ∀ (a b : D) (x y : V) (v u : Value) (A : Around), At X.K mg W a x → At X.K mg W b y → RelV x v → RelV y u → D.ltOk a b = true →
    A.units + min a.depth b.depth < cLine → RcOp .Lt A s v u (D.lt a b)
  | .int p, .int q, _, _, _, _, A, h1, h2, r1, r2, _, _ => by
    obtain rfl := h1; obtain ⟨t1, rfl⟩ := r1
    obtain rfl := h2; obtain ⟨t2, rfl⟩ := r2
    exact RcOp.lt_int p q t1 t2
  | .str p, .str q, _, _, _, _, A, h1, h2, r1, r2, _, _ => by
    obtain rfl := h1; obtain ⟨t1, rfl⟩ := r1
    obtain rfl := h2; obtain ⟨t2, rfl⟩ := r2
    exact fun _ _ _ _ h => lt_str h
  | .tup p, .tup q, _, _, _, _, A, h1, h2, r1, r2, hk, hu => by
    obtain ⟨l1, vs1, rfl, sq1, ds1⟩ := h1; cases r1; obtain ⟨its1, rv1, pl1, z1⟩ := I.tuple sq1.sq
    obtain ⟨l2, vs2, rfl, sq2, ds2⟩ := h2; cases r2; obtain ⟨its2, rv2, pl2, z2⟩ := I.tuple sq2.sq
    have n1 : its1.toArray.size = p.length := by rw [List.size_toArray, ← rv1.length, ds1.length]
    have n2 : its2.toArray.size = q.length := by rw [List.size_toArray, ← rv2.length, ds2.length]
    have hu' : A.in1.units + min (D.depths p) (D.depths q) < cLine := by show A.units + 1 + _ < _; simp only [D.depth] at hu; omega
    have key := rcLt_Ds I p q vs1 vs2 its1 its2 A.in1 ds1 ds2 rv1 rv2 hk hu'
    have R := tuples_ltF (A := A) (tupIs pl1) (tupIs pl2) (by omega) (e := pairD p q) (r := ltPair p q) (fun j j1 j2 ha => by simpa using (key j (by simpa using j1) (by simpa using j2) ha).1)
      (fun j j1 j2 ha hf => by simpa using (key j (by simpa using j1) (by simpa using j2) ha).2 hf)
    rw [n1, n2, lex_lts] at R
    exact R
  | .non, b, _, _, _, _, _, _, _, _, _, hk, _ => by cases b <;> cases hk
  | .bl _, b, _, _, _, _, _, _, _, _, _, hk, _ => by cases b <;> cases hk
  | .lst _, b, _, _, _, _, _, _, _, _, _, hk, _ => by cases b <;> cases hk
  | .dct _, b, _, _, _, _, _, _, _, _, _, hk, _ => by cases b <;> cases hk
  | .set _, b, _, _, _, _, _, _, _, _, _, hk, _ => by cases b <;> cases hk
  | .ref _, b, _, _, _, _, _, _, _, _, _, hk, _ => by cases b <;> cases hk
  | .fn _, b, _, _, _, _, _, _, _, _, _, hk, _ => by cases b <;> cases hk
  | .ty _, b, _, _, _, _, _, _, _, _, _, hk, _ => by cases b <;> cases hk
  | .int _, .non, _, _, _, _, _, _, _, _, _, hk, _ => by cases hk
  | .int _, .bl _, _, _, _, _, _, _, _, _, _, hk, _ => by cases hk
  | .int _, .str _, _, _, _, _, _, _, _, _, _, hk, _ => by cases hk
  | .int _, .tup _, _, _, _, _, _, _, _, _, _, hk, _ => by cases hk
  | .int _, .lst _, _, _, _, _, _, _, _, _, _, hk, _ => by cases hk
  | .int _, .dct _, _, _, _, _, _, _, _, _, _, hk, _ => by cases hk
  | .int _, .set _, _, _, _, _, _, _, _, _, _, hk, _ => by cases hk
  | .int _, .ref _, _, _, _, _, _, _, _, _, _, hk, _ => by cases hk
  | .int _, .fn _, _, _, _, _, _, _, _, _, _, hk, _ => by cases hk
  | .int _, .ty _, _, _, _, _, _, _, _, _, _, hk, _ => by cases hk
  | .str _, .non, _, _, _, _, _, _, _, _, _, hk, _ => by cases hk
  | .str _, .bl _, _, _, _, _, _, _, _, _, _, hk, _ => by cases hk
  | .str _, .int _, _, _, _, _, _, _, _, _, _, hk, _ => by cases hk
  | .str _, .tup _, _, _, _, _, _, _, _, _, _, hk, _ => by cases hk
  | .str _, .lst _, _, _, _, _, _, _, _, _, _, hk, _ => by cases hk
  | .str _, .dct _, _, _, _, _, _, _, _, _, _, hk, _ => by cases hk
  | .str _, .set _, _, _, _, _, _, _, _, _, _, hk, _ => by cases hk
  | .str _, .ref _, _, _, _, _, _, _, _, _, _, hk, _ => by cases hk
  | .str _, .fn _, _, _, _, _, _, _, _, _, _, hk, _ => by cases hk
  | .str _, .ty _, _, _, _, _, _, _, _, _, _, hk, _ => by cases hk
  | .tup _, .non, _, _, _, _, _, _, _, _, _, hk, _ => by cases hk
  | .tup _, .bl _, _, _, _, _, _, _, _, _, _, hk, _ => by cases hk
  | .tup _, .int _, _, _, _, _, _, _, _, _, _, hk, _ => by cases hk
  | .tup _, .str _, _, _, _, _, _, _, _, _, _, hk, _ => by cases hk
  | .tup _, .lst _, _, _, _, _, _, _, _, _, _, hk, _ => by cases hk
  | .tup _, .dct _, _, _, _, _, _, _, _, _, _, hk, _ => by cases hk
  | .tup _, .set _, _, _, _, _, _, _, _, _, _, hk, _ => by cases hk
  | .tup _, .ref _, _, _, _, _, _, _, _, _, _, hk, _ => by cases hk
  | .tup _, .fn _, _, _, _, _, _, _, _, _, _, hk, _ => by cases hk
  | .tup _, .ty _, _, _, _, _, _, _, _, _, _, hk, _ => by cases hk
theorem rcLt_Ds (I : Inv X pins σ W.H s) : ∀ (xs ys : List D) (vs ws : List V) (its its2 : List Value) (A : Around), RepDs X.K mg W xs vs → RepDs X.K mg W ys ws → Vals vs its → Vals ws its2 → D.ltOks xs ys = true →
    A.units + min (D.depths xs) (D.depths ys) < cLine → ∀ j (j1 : j < its.length) (j2 : j < its2.length), (∀ i, i < j → pairD xs ys i = true) →
      EqAt A s its[j] its2[j] (pairD xs ys j) ∧ (pairD xs ys j = false → RcOp .Lt A s its[j] its2[j] (ltPair xs ys j))
  | [], _, _, _, _, _, _, h1, _, r1, _, _, _, j, j1, _, _ => by cases h1; cases r1; exact absurd j1 (by simp)
  | _ :: _, [], _, _, _, _, _, _, h2, _, r2, _, _, j, _, j2, _ => by cases h2; cases r2; exact absurd j2 (by simp)
  | x :: xs, y :: ys, _, _, _, _, A, .cons p1 q1, .cons p2 q2, .cons r1 s1, .cons r2 s2, hk, hu, j, j1, j2, ha => by
    rw [D.ltOks, Bool.and_eq_true, Bool.and_eq_true] at hk
    simp only [D.depths] at hu
    obtain ⟨⟨k1, k2⟩, k3⟩ := hk
    cases j with
    | zero =>
      refine ⟨eqAt_D I x y _ _ _ _ A (p1.at (plain_notRef k1)) (p2.at (plain_notRef k2)) r1 r2 k1 k2 (by omega), fun hf => ?_⟩
      have hf : D.eqv x y = false := hf
      rw [hf, if_neg Bool.false_ne_true] at k3
      exact rcLt_D I x y _ _ _ _ A (p1.at (plain_notRef k1)) (p2.at (plain_notRef k2)) r1 r2 k3 (by omega)
    | succ j =>
      have h0 : D.eqv x y = true := ha 0 (Nat.succ_pos j)
      rw [h0, if_pos rfl] at k3
      have e : ltPair (x :: xs) (y :: ys) (j + 1) = ltPair xs ys j := by simp [ltPair]
      rw [pairD_succ, e]
      exact rcLt_Ds I xs ys _ _ _ _ A q1 q2 s1 s2 k3 (by omega) j (by simpa using j1) (by simpa using j2) fun i hi => by
        have := ha (i + 1) (Nat.succ_lt_succ hi)
        rwa [pairD_succ] at this
end

/-! ### is -/
theorem val_ne {v : Value} {c : Bool} (h : v ≠ .bool c) : (v == Value.bool c) = false := beq_eq_false_iff_ne.mpr h
theorem is_bool_any {x : V} {v : Value} {c : Bool} {Q : Value → Shared → Prop} {M : Model} {A : Around} {E : Value → Shared → Prop} (r : RelV x v) (h : Q (.bool (decide (x = .bl c))) s) : wpAny M A (compareOp .Is v (.bool c)) Q E s := by
  cases x with
  | non => cases r; exact wpAny_pure (by rw [val_ne (c := c) (by intro z; cases z)]; simpa using h)
  | bl b => cases r; exact wpAny_pure (by rw [show (Value.bool b == Value.bool c) = decide (V.bl b = V.bl c) from by cases b <;> cases c <;> decide +kernel]; exact h)
  | int i => obtain ⟨t, rfl⟩ := r; exact wpAny_pure (by rw [val_ne (c := c) (by intro z; cases z)]; simpa using h)
  | str i => obtain ⟨t, rfl⟩ := r; exact wpAny_pure (by rw [val_ne (c := c) (by intro z; cases z)]; simpa using h)
  | byt i => obtain ⟨t, rfl⟩ := r; exact wpAny_pure (by rw [val_ne (c := c) (by intro z; cases z)]; simpa using h)
  | flt i => obtain ⟨t, rfl⟩ := r; exact wpAny_pure (by rw [val_ne (c := c) (by intro z; cases z)]; simpa using h)
  | ref a => cases r; exact wpAny_pure (by rw [val_ne (c := c) (by intro z; cases z)]; simpa using h)
  | ty n => cases r; exact wpAny_pure (by rw [val_ne (c := c) (by intro z; cases z)]; simpa using h)
theorem isnot_bool_any {x : V} {v : Value} {c : Bool} {Q : Value → Shared → Prop} {M : Model} {A : Around} {E : Value → Shared → Prop} (r : RelV x v) (h : Q (.bool (!decide (x = .bl c))) s) : wpAny M A (compareOp .IsNot v (.bool c)) Q E s := by
  cases x with
  | non => cases r; exact wpAny_pure (by rw [val_ne (c := c) (by intro z; cases z)]; simpa using h)
  | bl b => cases r; exact wpAny_pure (by rw [show (Value.bool b == Value.bool c) = decide (V.bl b = V.bl c) from by cases b <;> cases c <;> decide +kernel]; exact h)
  | int i => obtain ⟨t, rfl⟩ := r; exact wpAny_pure (by rw [val_ne (c := c) (by intro z; cases z)]; simpa using h)
  | str i => obtain ⟨t, rfl⟩ := r; exact wpAny_pure (by rw [val_ne (c := c) (by intro z; cases z)]; simpa using h)
  | byt i => obtain ⟨t, rfl⟩ := r; exact wpAny_pure (by rw [val_ne (c := c) (by intro z; cases z)]; simpa using h)
  | flt i => obtain ⟨t, rfl⟩ := r; exact wpAny_pure (by rw [val_ne (c := c) (by intro z; cases z)]; simpa using h)
  | ref a => cases r; exact wpAny_pure (by rw [val_ne (c := c) (by intro z; cases z)]; simpa using h)
  | ty n => cases r; exact wpAny_pure (by rw [val_ne (c := c) (by intro z; cases z)]; simpa using h)
theorem at_non {a : D} {x : V} (h : At X.K mg W a x) : decide (x = .non) = decide (a = .non) := by
  cases a <;> first | (obtain rfl := h; simp; done) | (obtain ⟨_, _, rfl, _⟩ := h; simp; done) | (obtain ⟨_, rfl, _⟩ := h; simp; done) | exact h.elim
theorem at_bl {a : D} {x : V} {c : Bool} (h : At X.K mg W a x) : decide (x = .bl c) = decide (a = .bl c) := by
  cases a <;> first | (obtain rfl := h; simp; done) | (obtain ⟨_, _, rfl, _⟩ := h; simp; done) | (obtain ⟨_, rfl, _⟩ := h; simp; done) | exact h.elim

/-! ### in -/
open Classical in
noncomputable def hits (its : List Value) (xs : List D) (d : D) (y : Value) : Bool := decide (∃ (j : Nat), its[j]? = some y ∧ ∃ (z : D), xs[j]? = some z ∧ D.eqv z d = true)
theorem plains_get : ∀ {xs : List D} {j : Nat} {z : D}, D.plains xs = true → xs[j]? = some z → z.plain = true
  | [], _, _, _, h => by simp at h
  | x :: xs, 0, z, h, e => by rw [D.plains, Bool.and_eq_true] at h; simp at e; subst e; exact h.1
  | x :: xs, j + 1, z, h, e => by rw [D.plains, Bool.and_eq_true] at h; exact plains_get h.2 (by simpa using e)
theorem depths_get : ∀ {xs : List D} {j : Nat} {z : D}, xs[j]? = some z → z.depth ≤ D.depths xs
  | [], _, _, h => by simp at h
  | x :: xs, 0, z, e => by simp at e; subst e; rw [D.depths]; omega
  | x :: xs, j + 1, z, e => by have := depths_get (xs := xs) (j := j) (z := z) (by simpa using e); rw [D.depths]; omega
section
variable (I : Inv X pins σ W.H s) {xs : List D} {vs : List V} {its : List Value} {d : D} {x : V} {u : Value} {A : Around}
include I
theorem hits_eq (ds : RepDs X.K mg W xs vs) (rv : Vals vs its) (hp : D.plains xs = true) {j : Nat} {y : Value} {z : D} (h1 : its[j]? = some y) (h2 : xs[j]? = some z) : hits its xs d y = D.eqv z d := by
  have same : ∀ {i : Nat} {z' : D}, its[i]? = some y → xs[i]? = some z' → z' = z := fun {i z'} a b => by
    obtain ⟨w1, g1, k1⟩ := ds.get b
    obtain ⟨w2, g2, k2⟩ := ds.get h2
    obtain ⟨u1, g3, k3⟩ := rv.get g1
    obtain ⟨u2, g4, k4⟩ := rv.get g2
    rw [a] at g3; cases g3
    rw [h1] at g4; cases g4
    have e := k3.inj k4
    subst e
    have p1 := plains_get hp b
    have p2 := plains_get hp h2
    exact rep_det I z' z _ (k1.at (plain_notRef p1)) (k2.at (plain_notRef p2)) p1 p2
  unfold hits
  classical
  cases e : D.eqv z d with
  | true => exact decide_eq_true ⟨j, h1, z, h2, e⟩
  | false =>
    refine decide_eq_false fun ⟨i, a, z', b, c⟩ => ?_
    rw [same a b, e] at c
    cases c
theorem hits_any (ds : RepDs X.K mg W xs vs) (rv : Vals vs its) (hp : D.plains xs = true) : its.toArray.any (hits its xs d) = memD d xs := by
  unfold memD
  rw [Bool.eq_iff_iff]
  simp only [List.any_toArray, List.any_eq_true]
  constructor
  · rintro ⟨y, hy, h⟩
    obtain ⟨j, z⟩ := List.getElem?_of_mem hy
    obtain ⟨x', z2, z3⟩ : ∃ x', vs[j]? = some x' ∧ RelV x' y := by
      have hl := rv.length
      have hj := (List.getElem?_eq_some_iff.mp z).1
      obtain ⟨x', hx'⟩ : ∃ x', vs[j]? = some x' := ⟨vs[j]'(by omega), by simp⟩
      obtain ⟨u', a, b⟩ := rv.get hx'
      rw [z] at a; cases a
      exact ⟨x', hx', b⟩
    obtain ⟨d', a, _⟩ := ds.get' z2
    rw [hits_eq I ds rv hp z a] at h
    exact ⟨d', List.mem_of_getElem? a, h⟩
  · rintro ⟨z, hz, h⟩
    obtain ⟨j, a⟩ := List.getElem?_of_mem hz
    obtain ⟨x', b, _⟩ := ds.get a
    obtain ⟨u', c, _⟩ := rv.get b
    exact ⟨u', List.mem_of_getElem? c, by rw [hits_eq I ds rv hp c a]; exact h⟩
theorem hits_at (ds : RepDs X.K mg W xs vs) (rv : Vals vs its) (hp : D.plains xs = true) (hd : At X.K mg W d x) (rx : RelV x u) (pd : d.plain = true) (hu : A.units + d.depth < cLine) :
    ∀ y, y ∈ its.toArray → EqAt A s y u (hits its xs d y) := fun y hy => by
  obtain ⟨j, z⟩ := List.getElem?_of_mem (List.mem_toArray.mp hy)
  have hl := rv.length
  have hj := (List.getElem?_eq_some_iff.mp z).1
  obtain ⟨x', hx'⟩ : ∃ x', vs[j]? = some x' := ⟨vs[j]'(by omega), by simp⟩
  obtain ⟨u', a, b⟩ := rv.get hx'
  rw [z] at a; cases a
  obtain ⟨d', c, k⟩ := ds.get' hx'
  rw [hits_eq I ds rv hp z c]
  have p := plains_get hp c
  exact eqAt_D I d' d _ _ _ _ A (k.at (plain_notRef p)) hd b rx p pd (by omega)
end
/-- a op b by the trees -/
def rCmp (K : PySem.W.Frag) (mg : Str → Option Value) (o : Cop) : R2 := fun x y H Q => ∃ W a b c, W.H = H ∧ At K mg W a x ∧ At K mg W b y ∧ cmpop o a b = some c ∧ Q (.bl c) W.H
theorem eqOk_inv {a b : D} (h : eqOk a b = true) : a.plain = true ∧ b.plain = true ∧ min a.depth b.depth ≤ 60 := by
  unfold eqOk at h
  simp only [Bool.and_eq_true, decide_eq_true_eq] at h
  exact ⟨h.1.1, h.1.2, h.2⟩
theorem inOk_inv {a : D} {xs : List D} (h : inOk a xs = true) : a.plain = true ∧ D.plains xs = true ∧ a.depth ≤ 60 := by
  unfold inOk at h
  simp only [Bool.and_eq_true, decide_eq_true_eq] at h
  exact ⟨h.1.1, h.1.2, h.2⟩
theorem op_cmp (o : Cop) (mg : Str → Option Value) (hu : X.A.units + 64 < cLine) : OpR X (compareOp (copO o)) (rCmp X.K mg o) := by
  intro pins s σ H x y v u Q I rx ry h
  obtain ⟨W, a, b, c, rfl, h1, h2, e, q⟩ := h
  have fin : ∀ {k : Bool}, k = c → EP X pins σ Q (.bool k) s := fun {k} e => ⟨.bl c, W.H, I, by rw [e]; rfl, q⟩
  unfold cmpop at e
  split at e
  · split at e
    · rename_i hz; cases e
      obtain ⟨z1, z2, z3⟩ := eqOk_inv hz
      exact rcAt_D I _ _ _ _ _ _ X.A h1 h2 rx ry z1 z2 (by omega) X.prog X.w X.xe _ (fin rfl)
    · cases e
  · split at e
    · rename_i hz; cases e
      obtain ⟨z1, z2, z3⟩ := eqOk_inv hz
      exact neAt_D I _ _ _ _ _ _ X.A h1 h2 rx ry z1 z2 (by omega) X.prog X.w X.xe _ (fin rfl)
    · cases e
  · split at e
    · rename_i hz; cases e
      rw [Bool.and_eq_true] at hz
      obtain ⟨z1, z2, z3⟩ := eqOk_inv hz.2
      exact rcLt_D I _ _ _ _ _ _ X.A h1 h2 rx ry hz.1 (by omega) X.prog X.w X.xe _ (fin rfl)
    · cases e
  · obtain rfl := h1; obtain ⟨t1, rfl⟩ := rx
    obtain rfl := h2; obtain ⟨t2, rfl⟩ := ry
    cases e
    exact gt_int (fin rfl)
  · obtain rfl := h1; obtain rfl := h2; cases e
    exact op_gt_str pins s σ W.H _ _ v u Q I rx ry ⟨_, _, rfl, rfl, q⟩
  · obtain rfl := h1; obtain ⟨t1, rfl⟩ := rx
    obtain rfl := h2; obtain ⟨t2, rfl⟩ := ry
    cases e
    exact le_int (fin rfl)
  · obtain rfl := h1; obtain ⟨t1, rfl⟩ := rx
    obtain rfl := h2; obtain ⟨t2, rfl⟩ := ry
    cases e
    exact ge_int (fin rfl)
  · obtain rfl := h2; cases e
    exact op_isN pins s σ W.H _ _ v u Q I rx ry ⟨rfl, by rw [at_non h1]; exact q⟩
  · obtain rfl := h2; cases e
    exact op_notN pins s σ W.H _ _ v u Q I rx ry ⟨rfl, by rw [at_non h1]; exact q⟩
  · obtain rfl := h2; cases ry; cases e
    exact is_bool_any rx (fin (at_bl h1))
  · obtain rfl := h2; cases ry; cases e
    exact isnot_bool_any rx (fin (by rw [at_bl h1]))
  · split at e
    · rename_i hz; cases e
      obtain ⟨z1, z2, z3⟩ := inOk_inv hz
      obtain ⟨l, vs, rfl, sq, ds⟩ := h2
      cases ry
      obtain ⟨its, rv, pl, _⟩ := I.tuple sq.sq
      exact in_tupleAt (hits its _ _) (tupIs pl) (hits_at I ds rv z2 h1 rx z1 (by show X.A.units + 1 + _ < _; omega)) (fin (hits_any I ds rv z2))
    · cases e
  · split at e
    · rename_i hz; cases e
      obtain ⟨z1, z2, z3⟩ := inOk_inv hz
      obtain ⟨l, vs, rfl, sq, ds⟩ := h2
      cases ry
      obtain ⟨its, rv, pl, _⟩ := I.tuple sq.sq
      exact notIn_tupleAt (hits its _ _) (tupIs pl) (hits_at I ds rv z2 h1 rx z1 (by show X.A.units + 1 + _ < _; omega)) (fin (by rw [hits_any I ds rv z2]))
    · cases e
  · split at e
    · rename_i hz; cases e
      obtain ⟨z1, z2, z3⟩ := inOk_inv hz
      obtain ⟨l, vs, rfl, sq, ds⟩ := h2
      cases ry
      obtain ⟨its, rv, pl, _⟩ := I.list sq
      exact in_listAt (hits its _ _) pl.isList (hits_at I ds rv z2 h1 rx z1 (by show X.A.units + 1 + _ < _; omega)) (fin (hits_any I ds rv z2))
    · cases e
  · split at e
    · rename_i hz; cases e
      obtain ⟨z1, z2, z3⟩ := inOk_inv hz
      obtain ⟨l, vs, rfl, sq, ds⟩ := h2
      cases ry
      obtain ⟨its, rv, pl, _⟩ := I.list sq
      exact notIn_listAt (hits its _ _) pl.isList (hits_at I ds rv z2 h1 rx z1 (by show X.A.units + 1 + _ < _; omega)) (fin (by rw [hits_any I ds rv z2]))
    · cases e
  · exact h2.elim
  · exact h2.elim
  · exact h2.elim
  · exact h2.elim
  · obtain rfl := h1; obtain rfl := h2
    split at e
    · rename_i z1 z2 hz; cases e
      obtain ⟨cc⟩ := z1
      obtain ⟨cl⟩ := cc
      cases cl with
      | nil => exact absurd (show (0 : Nat) = 1 from hz) (by decide)
      | cons c0 r =>
        have hr : r = [] := List.eq_nil_of_length_eq_zero (Nat.succ.inj (show (c0 :: r).length = 0 + 1 from hz))
        subst hr
        refine op_in_sign pins s σ W.H _ _ v u Q I rx ry ⟨c0, z2, rfl, rfl, ?_⟩
        have e : decide (c0 ∈ z2.cps.toList) = (z2.cps.toList.any fun c => ([c0].toArray.toList).head? == some c) := by
          rw [Bool.eq_iff_iff, decide_eq_true_eq, List.any_eq_true]
          exact ⟨fun h => ⟨c0, h, beq_self_eq_true (some c0)⟩, fun ⟨c, h, e⟩ => by have e : some c0 = some c := eq_of_beq e; cases e; exact h⟩
        rw [e]; exact q
    · cases e
  · obtain rfl := h1; obtain rfl := h2
    split at e
    · rename_i z1 z2 hz; cases e
      obtain ⟨cc⟩ := z1
      obtain ⟨cl⟩ := cc
      cases cl with
      | nil => exact absurd (show (0 : Nat) = 1 from hz) (by decide)
      | cons c0 r =>
        have hr : r = [] := List.eq_nil_of_length_eq_zero (Nat.succ.inj (show (c0 :: r).length = 0 + 1 from hz))
        subst hr
        refine op_notIn_sign pins s σ W.H _ _ v u Q I rx ry ⟨c0, z2, rfl, rfl, ?_⟩
        have e : decide (c0 ∈ z2.cps.toList) = (z2.cps.toList.any fun c => ([c0].toArray.toList).head? == some c) := by
          rw [Bool.eq_iff_iff, decide_eq_true_eq, List.any_eq_true]
          exact ⟨fun h => ⟨c0, h, beq_self_eq_true (some c0)⟩, fun ⟨c, h, e⟩ => by have e : some c0 = some c := eq_of_beq e; cases e; exact h⟩
        rw [e]; exact q
    · cases e
  · cases e
end
end Ly
/-! Ly: places, slices, built-in functions, methods. -/
namespace Ly
open PySem PySem.Spec PyProof.Rows L2 PySem.SeqAt

theorem atI_eq {α : Type} (xs : List α) (i : Int) : Ly.atI xs i = L2.atI xs i := rfl
theorem sIx_eq (n d : Nat) (o : Option Int) : Ly.sIx n d o = HT.sIx n d o := by cases o <;> rfl
section
variable {K : PySem.W.Frag} {mg : Str → Option Value} {W : Wd} {S : Sto} {xs : List D} {vs : List V}
theorem rep_atI {i : Int} {d : D} (r : RepDs K mg W xs vs) (h : Ly.atI xs i = some d) : ∃ v, L2.atI vs i = some v ∧ RepD K mg W d v := by
  have hl := r.length
  rw [atI_eq] at h
  unfold L2.atI at h ⊢
  cases e : ixN xs.length i with
  | none => rw [e] at h; cases h
  | some j =>
    rw [e] at h
    rw [← hl, e]
    obtain ⟨v, h1, h2⟩ := r.get (i := j) (d := d) h
    exact ⟨v, h1, h2⟩
theorem cut_all {lo hi : Option Int} (r : RepDs K mg W xs vs) (z1 : HT.sIx vs.length 0 lo = 0) (z2 : HT.sIx vs.length vs.length hi = vs.length) : cut xs lo hi = xs := by
  unfold cut
  rw [sIx_eq, sIx_eq, r.length, z1, z2, List.drop_zero, Nat.sub_zero, ← r.length, List.take_length]
theorem rep_cut {lo hi : Option Int} (r : RepDs K mg W xs vs) : RepDs K mg W (cut xs lo hi) (cutV vs lo hi) := by
  unfold cut cutV
  rw [sIx_eq, sIx_eq, r.length]
  exact (r.drop _).take _
end

section
variable {X : Cx} {mg : Str → Option Value}
/-! ### a[i] -/
def rIdx (K : PySem.W.Frag) (mg : Str → Option Value) : R2 := fun x y H Q => ∃ W S a b d, W.H = H ∧ Rep K mg W S ∧ At K mg W a x ∧ At K mg W b y ∧ idx a b = some d ∧ Then K mg W S d Q
theorem ix_D : IxR X (rIdx X.K mg) := by
  intro value slice pins s σ H x y v u Q I rx ry h hs
  obtain ⟨W, S, a, b, d, rfl, R, h1, h2, e, q⟩ := h
  unfold idx at e
  split at e
  · obtain ⟨p, vs, rfl, t, r⟩ := h1; obtain rfl := h2
    obtain ⟨w, e1, e2⟩ := rep_atI r e
    exact ix_tup value slice pins s σ W.H _ _ v u Q I rx ry ⟨p, vs, _, w, rfl, rfl, t.sq, e1, q.here R e2⟩ hs
  · obtain ⟨p, vs, rfl, t, r⟩ := h1; obtain rfl := h2
    obtain ⟨w, e1, e2⟩ := rep_atI r e
    exact ix_list value slice pins s σ W.H _ _ v u Q I rx ry ⟨p, vs, _, w, rfl, rfl, t, e1, q.here R e2⟩ hs
  · obtain rfl := h1; obtain rfl := h2
    split at e
    · rename_i hz
      obtain ⟨c, e1, rfl⟩ := Option.map_eq_some_iff.mp e
      exact ix_str value slice pins s σ W.H _ _ v u Q I rx ry ⟨_, _, c, rfl, rfl, by rw [← line_eq]; exact hz, e1, q.here R (.str _)⟩ hs
    · cases e
  · exact h1.elim
  · cases e

/-! ### a[lo:hi] -/
def rSlc (K : PySem.W.Frag) (mg : Str → Option Value) : V → Option Int → Option Int → Hp → VK → Prop := fun x lo hi H Q => ∃ W S a d, W.H = H ∧ Rep K mg W S ∧ At K mg W a x ∧ slice a lo hi = some d ∧ Then K mg W S d Q
theorem sl_D : SlR X (rSlc X.K mg) := by
  intro pins s σ H x v vl vu lo hi sl Q I rx hs pl pu h
  obtain ⟨W, S, a, d, rfl, R, h1, e, q⟩ := h
  unfold slice at e
  split at e
  · cases e
    obtain ⟨p, vs, rfl, t, r⟩ := h1
    refine sl_tupA pins s σ W.H _ v vl vu lo hi sl Q I rx hs pl pu ⟨p, vs, rfl, t.sq, fun ⟨z1, z2⟩ => ?_, fun _ p' hn => q.tup R (rep_cut r) p' hn⟩
    rw [cut_all r z1 z2] at q
    exact q.here R (.tup t r)
  · cases e
    obtain ⟨p, vs, rfl, t, r⟩ := h1
    exact sl_list pins s σ W.H _ v vl vu lo hi sl Q I rx hs pl pu ⟨p, vs, rfl, t, fun p' hn => q.lst R (rep_cut r) p' hn⟩
  · obtain rfl := h1
    split at e
    · rename_i z hz; cases e
      refine sl_str pins s σ W.H _ v vl vu lo hi sl Q I rx hs pl pu ⟨z, rfl, by rw [← line_eq]; exact hz, ?_⟩
      have e : cutS z lo hi = ⟨(cut z.cps.toList lo hi).toArray⟩ := by
        unfold cutS cut
        rw [sIx_eq, sIx_eq]
        have hl : z.length = z.cps.toList.length := by simp [Str.length]
        simp only [hl]
      rw [e]
      exact q.here R (.str _)
    · cases e
  · cases e

/-! ### built-in functions and types -/
def AtB (K : PySem.W.Frag) (mg : Str → Option Value) (W : Wd) : List D → List V → Prop
  | [], vs => vs = []
  | d :: ds, vs => ∃ v r, vs = v :: r ∧ At K mg W d v ∧ AtB K mg W ds r
def biV : Bi → Value
  | .len => .builtin "len" | .tuple => .type "tuple" | .list => .type "list"
  | .isInt => .builtin "isinstance" | .isBool => .builtin "isinstance" | .isStr => .builtin "isinstance" | .isTuple => .builtin "isinstance" | .isList => .builtin "isinstance"
  | .int => .type "int" | .all => .builtin "all" | .any => .builtin "any" | .sorted => .builtin "sorted" | .abs => .builtin "abs" | .str => .type "str"
  | .dict => .type "dict" | .set => .type "set" | .sum => .builtin "sum" | .min => .builtin "min" | .max => .builtin "max"
  | .listItems => .type "list" | .sortedItems => .builtin "sorted" | .sumValues => .builtin "sum"
def rBi (K : PySem.W.Frag) (mg : Str → Option Value) (b : Bi) : List V → Hp → VK → Prop := fun xs H Q => ∃ W S ds d, W.H = H ∧ Rep K mg W S ∧ AtB K mg W ds xs ∧ builtin b ds = some d ∧ Then K mg W S d Q
theorem allBl_eq : ∀ {xs : List D} {bs : List Bool} {vs : List V} {W : Wd}, allBl xs = some bs → RepDs X.K mg W xs vs → vs = bs.map V.bl
  | [], bs, vs, W, h, r => by cases r; cases h; rfl
  | x :: xs, bs, vs, W, h, r => by
    cases x with
    | bl b =>
      cases r with
      | cons p r =>
        obtain ⟨bs', e, rfl⟩ := Option.map_eq_some_iff.mp (show (allBl xs).map (b :: ·) = some bs from h)
        rw [p.bl_inv, allBl_eq e r]; rfl
    | _ => cases h
theorem allInt_eq : ∀ {xs : List D} {bs : List Int} {vs : List V} {W : Wd}, allInt xs = some bs → RepDs X.K mg W xs vs → vs = bs.map V.int
  | [], bs, vs, W, h, r => by cases r; cases h; rfl
  | x :: xs, bs, vs, W, h, r => by
    cases x with
    | int b =>
      cases r with
      | cons p r =>
        obtain ⟨bs', e, rfl⟩ := Option.map_eq_some_iff.mp (show (allInt xs).map (b :: ·) = some bs from h)
        rw [p.int_inv, allInt_eq e r]; rfl
    | _ => cases h
/-- a value's built-in type -/
def tyName : D → String
  | .non => "NoneType" | .bl _ => "bool" | .int _ => "int" | .str _ => "str" | .tup _ => "tuple" | .lst _ => "list" | .dct _ => "dict" | .set _ => "set" | _ => ""
theorem at_ty {W : Wd} {d : D} {v : V} (h : At X.K mg W d v) (hs : isScalar d = true) : TyX X.K W.H v (.type (tyName d)) := by
  cases d with
  | non => obtain rfl := h; exact .base .non
  | bl b => obtain rfl := h; exact .base (.bl b)
  | int i => obtain rfl := h; exact .base (.int i)
  | str x => obtain rfl := h; exact .base (.str x)
  | tup xs =>
    obtain ⟨a, vs, rfl, t, _⟩ := h
    rcases t with ⟨t | ⟨o, t⟩, _⟩ | ⟨o, its, n, t, c, _⟩
    · exact .base (.tup t)
    · exact .fTuple t
    · exact .kTuple t c
  | lst xs =>
    obtain ⟨a, vs, rfl, t, _⟩ := h
    rcases t with (t | ⟨o, t⟩) | ⟨o, its, n, t, c, _⟩
    · exact .base (.lst t)
    · exact .base (.frz t)
    · exact .kList t c
  | _ => first | exact h.elim | cases hs
def isNames : List String := ["NoneType", "bool", "int", "str", "tuple", "list"]
theorem kits (T : String) (f : String → Bool) (h : (isNames.all fun n => decide (kitB n T = some (f n))) = true) {W : Wd} {d : D} {v : V} (a : At X.K mg W d v) (hs : isScalar d = true) : PySem.W.kitOne X.K (.type (tyName d)) (.type T) = some (f (tyName d)) := by
  have g : ∀ n ∈ isNames, kitB n T = some (f n) := fun n hn => of_decide_eq_true (List.all_eq_true.mp h n hn)
  refine kit_ty (g _ ?_)
  cases d <;> first | (simp [tyName, isNames]; done) | exact a.elim | cases hs
theorem isi {T : String} (f : String → Bool) (h : (isNames.all fun n => decide (kitB n T = some (f n))) = true) {pins : List (Addr × Obj)} {s : Shared} {σ : L2.St} {W : Wd} {d : D} {v : V} {us : List Value} {Q : VK} (I : Inv X pins σ W.H s)
    (a : At X.K mg W d v) (hs : isScalar d = true) (r : Vals [v, .ty T] us) (q : Q (.bl (f (tyName d))) W.H) : wpAny (model X.prog X.w) X.A (call (.builtin "isinstance") us) (EP X pins σ Q) X.xe s :=
  call_isi pins s σ W.H _ us Q I r ⟨v, .ty T, _, _, _, rfl, .ty T, at_ty a hs, kits T f h a hs, q⟩
theorem call_B (b : Bi) (hc : X.calm = true) (hb : b ∈ [Bi.len, .tuple, .list, .int, .all, .any, .abs, .str, .sum]) : CallR X (biV b) (rBi X.K mg b) := by
  intro pins s σ H xs us Q I r h
  obtain ⟨W, S, ds, d, rfl, R, h1, e, q⟩ := h
  unfold builtin at e
  split at e
  · obtain ⟨v, _, rfl, ⟨p, vs, rfl, t, k⟩, rfl⟩ := h1; cases e
    exact call_len_seq pins s σ W.H _ us Q I r ⟨p, vs, rfl, .inr t.sq, by rw [← k.length]; exact q.here R (.int _)⟩
  · obtain ⟨v, _, rfl, ⟨p, vs, rfl, t, k⟩, rfl⟩ := h1; cases e
    exact call_len_seq pins s σ W.H _ us Q I r ⟨p, vs, rfl, .inl t, by rw [← k.length]; exact q.here R (.int _)⟩
  · obtain ⟨v, _, rfl, z, rfl⟩ := h1; exact z.elim
  · obtain ⟨v, _, rfl, z, rfl⟩ := h1; exact z.elim
  · obtain ⟨v, _, rfl, z, rfl⟩ := h1
    obtain rfl := z
    split at e
    · rename_i hz; cases e
      exact call_len_str pins s σ W.H _ us Q I r ⟨_, rfl, by rw [← line_eq]; exact hz, q.here R (.int _)⟩
    · cases e
  · obtain ⟨v, _, rfl, ⟨p, vs, rfl, t, k⟩, rfl⟩ := h1; cases e
    exact call_tuple_of pins s σ W.H _ us Q I r ⟨p, vs, rfl, .inr ⟨t.sq, q.here R (.tup t k)⟩⟩
  · obtain ⟨v, _, rfl, ⟨p, vs, rfl, t, k⟩, rfl⟩ := h1; cases e
    exact call_tuple_of pins s σ W.H _ us Q I r ⟨p, vs, rfl, .inl ⟨t, fun p hn => q.tup R k p hn⟩⟩
  · obtain ⟨v, _, rfl, ⟨p, vs, rfl, t, k⟩, rfl⟩ := h1; cases e
    exact call_list_of pins s σ W.H _ us Q I r ⟨p, vs, rfl, .inr t.sq, fun p hn => q.lst R k p hn⟩
  · obtain ⟨v, _, rfl, ⟨p, vs, rfl, t, k⟩, rfl⟩ := h1; cases e
    exact call_list_of pins s σ W.H _ us Q I r ⟨p, vs, rfl, .inl t, fun p hn => q.lst R k p hn⟩
  · obtain ⟨v, _, rfl, z, rfl⟩ := h1; exact z.elim
  · simp at hb
  · simp at hb
  · simp at hb
  · simp at hb
  · simp at hb
  · obtain ⟨v, _, rfl, z, rfl⟩ := h1; obtain rfl := z; cases e
    exact call_int1 pins s σ W.H _ us Q I r (.inl ⟨_, rfl, q.here R (.int _)⟩)
  · obtain ⟨v, _, rfl, z, rfl⟩ := h1; obtain rfl := z; cases e
    exact call_int1 pins s σ W.H _ us Q I r (.inr ⟨_, rfl, q.here R (.int _)⟩)
  · obtain ⟨v, _, rfl, ⟨p, vs, rfl, t, k⟩, rfl⟩ := h1
    obtain ⟨bs, e1, rfl⟩ := Option.map_eq_some_iff.mp e
    exact cr_all hc pins s σ W.H _ us Q I r ⟨p, bs, rfl, by rw [← allBl_eq e1 k]; exact t, q.here R (.bl _)⟩
  · obtain ⟨v, _, rfl, ⟨p, vs, rfl, t, k⟩, rfl⟩ := h1
    obtain ⟨bs, e1, rfl⟩ := Option.map_eq_some_iff.mp e
    exact cr_any hc pins s σ W.H _ us Q I r ⟨p, bs, rfl, by rw [← allBl_eq e1 k]; exact t, q.here R (.bl _)⟩
  · simp at hb
  · simp at hb
  · simp at hb
  · simp at hb
  · obtain ⟨v, _, rfl, z, rfl⟩ := h1; obtain rfl := z; cases e
    exact call_abs pins s σ W.H _ us Q I r ⟨_, rfl, q.here R (.int _)⟩
  · obtain ⟨v, _, rfl, z, rfl⟩ := h1; obtain rfl := z; cases e
    exact SkE.call_str_str pins s σ W.H _ us Q I r ⟨_, rfl, q.here R (.str _)⟩
  · obtain ⟨v, _, rfl, z, rfl⟩ := h1; obtain rfl := z
    split at e
    · rename_i hz; cases e
      exact call_str_int pins s σ W.H _ us Q I r ⟨_, rfl, hz, q.here R (.str _)⟩
    · cases e
  · simp at hb
  · simp at hb
  · obtain ⟨v, _, rfl, ⟨p, vs, rfl, t, k⟩, rfl⟩ := h1
    obtain ⟨bs, e1, rfl⟩ := Option.map_eq_some_iff.mp e
    exact cr_sum hc pins s σ W.H _ us Q I r ⟨p, bs, rfl, by rw [← allInt_eq e1 k]; exact t, q.here R (.int _)⟩
  all_goals first | (simp at hb; done) | cases e
end
end Ly
/-! Ly: what is told of a result; readings. -/
namespace Ly
open PySem PySem.Spec PyProof.Rows L2 PySem.SeqAt

/-- the slots by the trees; own: the slots whose lists the def alone holds -/
structure REnv (K : PySem.W.Frag) (mg : Str → Option Value) (own : List Nat) (W : Wd) (en : Env) (σ : L2.St) : Prop where
  len : en.length = σ.length
  val : ∀ i d, en[i]? = some (some d) → i ∉ own → ∃ v, σ[i]? = some (some v) ∧ RepD K mg W d v
  mine : ∀ i d, en[i]? = some (some d) → i ∈ own → ∃ a vs xs, d = .lst xs ∧ σ[i]? = some (some (.ref a)) ∧ W.H a = some (.lst vs) ∧ W.F a ∧ a ∉ W.ρ ∧ RepDs K mg W xs vs
  apart : ∀ i j d e a b, i ∈ own → j ∈ own → i ≠ j → en[i]? = some (some d) → en[j]? = some (some e) → σ[i]? = some (some (.ref a)) → σ[j]? = some (some (.ref b)) → a ≠ b
section
variable {K : PySem.W.Frag} {mg : Str → Option Value} {own : List Nat} {W W' : Wd} {en : Env} {σ : L2.St}
theorem REnv.ext (r : REnv K mg own W en σ) (x : Ext W W') (hs : ∀ a ∈ W.ρ, W.F a) : REnv K mg own W' en σ where
  len := r.len
  val := fun i d h n => let ⟨v, h1, h2⟩ := r.val i d h n; ⟨v, h1, h2.ext x hs⟩
  mine := fun i d h n => by
    obtain ⟨a, vs, xs, e, h1, h2, h3, h4, h5⟩ := r.mine i d h n
    refine ⟨a, vs, xs, e, h1, x.keep _ _ h2 h4, x.fsub _ h3, fun z => ?_, h5.ext x hs⟩
    rcases x.rnew _ z with z | z
    · exact h4 z
    · rw [h2] at z; cases z
  apart := r.apart
end

/-- an exception by the trees -/
def RepX (K : PySem.W.Frag) (mg : Str → Option Value) (W : Wd) (c : Str) (fs : List (Str × D)) (cls : Value) (od : Option Addr) : Prop :=
  mg c = some cls ∧ match od with
    | none => fs = []
    | some d => ∃ vs, W.H d = some (.xd vs) ∧ vs.map (·.1) = fs.map (·.1) ∧ RepDs K mg W (fs.map (·.2)) (vs.map (·.2))
/-- what is told of a result -/
def Out {α : Type} (K : PySem.W.Frag) (mg : Str → Option Value) (E : XK) (W : Wd) (r : Re α) (R : α → Sto → Wd → Prop) : Prop :=
  match r with
  | .ok a S => ∀ W', Ext W W' → Rep K mg W' S → R a S W'
  | .exc c fs S => ∀ W' cls od, Ext W W' → Rep K mg W' S → RepX K mg W' c fs cls od → E cls od W'.H
  | .bad => False
section
variable {α β : Type} {K : PySem.W.Frag} {mg : Str → Option Value} {E : XK} {W W' : Wd} {r : Re α} {f : α → Sto → Re β} {R R' : α → Sto → Wd → Prop} {R2 : β → Sto → Wd → Prop}
theorem Out.mono (h : Out K mg E W r R) (g : ∀ a S W', Ext W W' → Rep K mg W' S → R a S W' → R' a S W') : Out K mg E W r R' := by
  cases r with
  | ok a S => exact fun W' x k => g a S W' x k (h W' x k)
  | exc c fs S => exact h
  | bad => exact h
theorem Out.ext (h : Out K mg E W r R) (x : Ext W W') : Out K mg E W' r R := by
  cases r with
  | ok a S => exact fun W'' y k => h W'' (x.trans y) k
  | exc c fs S => exact fun W'' cls od y k q => h W'' cls od (x.trans y) k q
  | bad => exact h
theorem Out.bind (h : Out K mg E W (r.bind f) R2) : Out K mg E W r fun a S W' => Out K mg E W' (f a S) R2 := by
  cases r with
  | ok a S => exact fun W' x k => Out.ext (r := f a S) h x
  | exc c fs S => exact h
  | bad => exact h
theorem Out.lift {o : Option α} {S : Sto} (h : Out K mg E W (lift o S) R) : ∃ a, o = some a ∧ ∀ W', Ext W W' → Rep K mg W' S → R a S W' := by
  cases o with
  | none => exact h.elim
  | some a => exact ⟨a, rfl, h⟩
end
def RepM (b : Bool) (K : PySem.W.Frag) (mg : Str → Option Value) (W : Wd) (d : D) (v : V) : Prop := if b = true then RepB K mg W d v else RepD K mg W d v
theorem RepM.b {b : Bool} {K : PySem.W.Frag} {mg : Str → Option Value} {W : Wd} {d : D} {v : V} (h : RepM b K mg W d v) : RepB K mg W d v := by
  cases b with
  | true => exact h
  | false => exact RepB.of h
theorem RepM.of {b : Bool} {K : PySem.W.Frag} {mg : Str → Option Value} {W : Wd} {d : D} {v : V} (h : RepD K mg W d v) : RepM b K mg W d v := by
  cases b with
  | true => exact RepB.of h
  | false => exact h
def RepMs (b : Bool) (K : PySem.W.Frag) (mg : Str → Option Value) (W : Wd) (d : List D) (v : List V) : Prop := if b = true then RepBs K mg W d v else RepDs K mg W d v

section
variable (K : PySem.W.Frag) (mg : Str → Option Value) (E : XK) (own : List Nat) (cf : CF)
/-- where the readings begin -/
def From (σ : L2.St) (H : Hp) (φ : Wd → Sto → Env → Prop) : Prop := ∃ W S en, W.H = H ∧ Rep K mg W S ∧ REnv K mg own W en σ ∧ φ W S en
def tE (b : Bool) (ir : Ex) : TE := fun σ H Q => From K mg own σ H fun W S en => Out K mg E W (evE cf ir en S) fun d _ W' => ∀ v, RepM b K mg W' d v → Q v W'.H
def tEs (b : Bool) (irs : List Ex) : TA := fun σ H Q => From K mg own σ H fun W S en => Out K mg E W (evEs cf irs en S) fun ds _ W' => ∀ vs, RepMs b K mg W' ds vs → Q vs W'.H
def tT (ir : Ex) : TT := fun σ H Q => From K mg own σ H fun W S en => Out K mg E W (evE cf ir en S) fun d _ W' => ∃ c, d = .bl c ∧ Q c W'.H
def tOI (o : Option Ex) : TO := fun σ H Q => From K mg own σ H fun W S en => Out K mg E W (evO cf o en S) fun d _ W' => Q d W'.H
def tCd (o : Option Ex) : TT := fun σ H Q => From K mg own σ H fun W S en => Out K mg E W (evC cf o en S) fun c _ W' => Q c W'.H
end

/-! ### weakening -/
section
variable {X : Cx} {e : Expr} {es : List Expr} {st : Stmt} {sts : List Stmt}
theorem pe_imp {t t' : TE} (h : PE X e t) (i : ∀ σ H Q, t' σ H Q → t σ H Q) : PE X e t' := ⟨fun pins s σ H Q I q => h.run pins s σ H Q I (i σ H Q q)⟩
theorem pt_imp {t t' : TT} (h : PT X e t) (i : ∀ σ H Q, t' σ H Q → t σ H Q) : PT X e t' := ⟨fun pins s σ H Q I q => h.run pins s σ H Q I (i σ H Q q)⟩
theorem pw_imp {t t' : TT} (h : PW X e t) (i : ∀ σ H Q, t' σ H Q → t σ H Q) : PW X e t' := ⟨fun wh pins s σ H Q I q => h.run wh pins s σ H Q I (i σ H Q q)⟩
theorem pa_imp {t t' : TA} (h : PA X es t) (i : ∀ σ H Q, t' σ H Q → t σ H Q) : PA X es t' := ⟨fun pos pins s σ H Q I q => h.run pos pins s σ H Q I (i σ H Q q)⟩
theorem ps_imp {t t' : TS} (h : PS X st t) (i : ∀ D σ H, t' D σ H → t D σ H) : PS X st t' := ⟨fun pins s σ H D I q => h.run pins s σ H D I (i D σ H q)⟩
theorem pss_imp {t t' : TS} (h : PSs X sts t) (i : ∀ D σ H, t' D σ H → t D σ H) : PSs X sts t' := ⟨fun pins s σ H D I q => h.run pins s σ H D I (i D σ H q)⟩
theorem pc_imp {op : CmpOp} {a b : Expr} {t t' : TE} (h : PC X op a b t) (i : ∀ σ H Q, t' σ H Q → t σ H Q) : PC X op a b t' := ⟨fun pins s σ H Q I q => h.run pins s σ H Q I (i σ H Q q)⟩
end

/-! ### the readings one in another -/
section
variable {K : PySem.W.Frag} {mg : Str → Option Value} {E : XK} {own : List Nat} {cf : CF} {σ : L2.St} {H : Hp}
/-- a part's reading, from what is told of the whole -/
theorem tE_of {b : Bool} {ir : Ex} {W : Wd} {S : Sto} {en : Env} {Q : VK} (R : Rep K mg W S) (r : REnv K mg own W en σ)
    (h : Out K mg E W (evE cf ir en S) fun d S' W' => ∀ v, RepM b K mg W' d v → REnv K mg own W' en σ → Rep K mg W' S' → Q v W'.H) : tE K mg E own cf b ir σ W.H Q :=
  ⟨W, S, en, rfl, R, r, h.mono fun d S' W' x k q v hv => q v hv (r.ext x R.sub) k⟩
theorem tE_imp {b : Bool} {ir : Ex} {Q Q' : VK} (h : tE K mg E own cf b ir σ H Q) (i : ∀ v H', Q v H' → Q' v H') : tE K mg E own cf b ir σ H Q' := by
  obtain ⟨W, S, en, e, R, r, q⟩ := h
  exact ⟨W, S, en, e, R, r, q.mono fun d S' W' _ _ q v hv => i _ _ (q v hv)⟩
/-- what may be borrowed may be had -/
theorem tE_b {b : Bool} {ir : Ex} {Q : VK} (h : tE K mg E own cf true ir σ H Q) : tE K mg E own cf b ir σ H Q := by
  obtain ⟨W, S, en, e, R, r, q⟩ := h
  exact ⟨W, S, en, e, R, r, q.mono fun d S' W' _ _ q v hv => q v hv.b⟩
/-- a test from a value -/
theorem tT_B {b : Bool} {ir : Ex} {Q : Bool → Hp → Prop} (h : tT K mg E own cf ir σ H Q) : tB (tE K mg E own cf b ir) σ H Q := by
  obtain ⟨W, S, en, e, R, r, q⟩ := h
  refine ⟨W, S, en, e, R, r, q.mono fun d S' W' _ _ q v hv => ?_⟩
  obtain ⟨c, rfl, q⟩ := q
  exact ⟨c, hv.b.bl_inv, q⟩
theorem pt_of {X : Cx} {e : Expr} {b : Bool} {ir : Ex} (h : PE X e (tE K mg E own cf b ir)) (he : ∀ whole, isTrue e X.env whole = (do let v ← whole; standAt e.pos; holding [v] (truthy v))) : PT X e (tT K mg E own cf ir) :=
  pt_imp (pt_val h he) fun _ _ _ q => tT_B q

/-- two values, one behind the other, by an operation -/
theorem tE_two {b1 b2 b3 : Bool} {a b ir : Ex} {r : R2} {Q : VK} {f : D → D → Sto → Re D}
    (ev : ∀ en S, evE cf ir en S = (evE cf a en S).bind fun x S => (evE cf b en S).bind fun y S => f x y S)
    (op : ∀ W S x y v u, Rep K mg W S → RepM b1 K mg W x v → RepM b2 K mg W y u → Out K mg E W (f x y S) (fun d _ W' => ∀ v, RepM b3 K mg W' d v → Q v W'.H) → r v u W.H Q)
    (h : tE K mg E own cf b3 ir σ H Q) : tOp r (tE K mg E own cf b1 a) (tE K mg E own cf b2 b) σ H Q := by
  obtain ⟨W, S, en, rfl, R, rr, q⟩ := h
  rw [ev] at q
  refine tE_of R rr (q.bind.mono fun x S1 W1 x1 R1 q1 v hv rr1 _ => ?_)
  refine tE_of R1 rr1 (q1.bind.mono fun y S2 W2 x2 R2 q2 u hu rr2 _ => ?_)
  refine op W2 S2 x y v u R2 ?_ hu q2
  cases b1 with
  | true => exact RepB.ext x2 R1.sub hv
  | false => exact RepD.ext x2 R1.sub hv
end
end Ly
/-! Ly: from the text's trees to the evaluator's terms. -/
namespace Ly
open PySem PySem.Spec PyProof.Rows L2 PySem.SeqAt

/-- the module: its defs, its constants, the built-in names that nobody takes -/
structure Glob where
  fns : List Str
  consts : List (Str × D)
  free : List Str
/-- a block's scope; which of its cells are its own -/
structure Bl where
  sc : Scope
  fo : Str → Bool
def vis (sc : Scope) (x : Str) : Bool := match sc.names.lookup x with
  | some .local => true | some .cell => true | some .free => true | _ => false
def loc (b : Bl) (x : Str) : Bool := match b.sc.names.lookup x with
  | some .local => true | some .cell => b.fo x | _ => false
def gl (sc : Scope) (x : Str) : Bool := match sc.names.lookup x with
  | some .globalImplicit => true | _ => false
def plainName (x : Str) : Bool := !(x == ("__debug__" : Str)) && !(x == ("__classdict__" : Str)) && !(x == ("__name__" : Str))
def slot (N : List Str) (x : Str) : Option Nat := N.findIdx? fun y => decide (y = x)
def bopOf : Operator → Option Bop
  | .Add => some .add | .Sub => some .sub | .Mult => some .mul | .FloorDiv => some .fdiv | .Mod => some .mod | .Pow => some .pow | _ => none
def copOf : CmpOp → Option Cop
  | .Eq => some .eq | .NotEq => some .ne | .Lt => some .lt | .LtE => some .le | .Gt => some .gt | .GtE => some .ge | .Is => some .is_ | .IsNot => some .isnot | .In => some .in_ | .NotIn => some .notin
def biOf (x : Str) : Option Bi :=
  if x = ("len" : Str) then some .len else if x = ("tuple" : Str) then some .tuple else if x = ("list" : Str) then some .list else if x = ("int" : Str) then some .int
  else if x = ("all" : Str) then some .all else if x = ("any" : Str) then some .any else if x = ("abs" : Str) then some .abs else if x = ("str" : Str) then some .str
  else if x = ("sum" : Str) then some .sum else none
def isOf (x : Str) : Option Bi :=
  if x = ("int" : Str) then some .isInt else if x = ("bool" : Str) then some .isBool else if x = ("str" : Str) then some .isStr else if x = ("tuple" : Str) then some .isTuple
  else if x = ("list" : Str) then some .isList else none
def meOf (x : Str) : Option Me := if x = ("index" : Str) then some .index else none
def oneLine (a c : Pos) : Bool := a.endLine == c.line
/-- targets -/
def cG (N : List Str) (own : List Nat) (b : Bl) : Nat → Expr → Option Tg
  | 0, _ => none
  | n + 1, .Name x _ => if loc b x then (slot N x).bind fun i => if i ∈ own then none else some (.nm i) else none
  | n + 1, .Tuple es _ _ => (es.mapM (cG N own b n)).map .tup
  | _ + 1, _ => none
mutual
def Tg.slots : Tg → List Nat
  | .nm i => [i]
  | .tup ts => Tg.slotss ts
def Tg.slotss : List Tg → List Nat
  | [] => []
  | t :: ts => Tg.slots t ++ Tg.slotss ts
end
def notCall : Expr → Bool
  | .Call .. => false
  | _ => true
def isTup : Expr → Bool
  | .Tuple _ _ _ => true
  | _ => false
/-- the own names of a comprehension's block, with their places -/
def ownOf (N : List Str) (scope : Scope) : List (Str × Nat) := scope.names.filterMap fun p => match p.2 with
  | .local => (slot N p.1).map fun i => (p.1, i)
  | .cell => (slot N p.1).map fun i => (p.1, i)
  | _ => none
def ownIx (N : List Str) (scope : Scope) : List Nat := (ownOf N scope).map (·.2)
section
variable (G : Glob) (N : List Str) (own : List Nat)
/-- what is walked; tt: the target is a tuple -/
def cI (cE : Bool → Bl → Expr → Option Ex) (ob tt : Bool) (b : Bl) : Expr → Option (Ik × List Ex)
  | .Call (.Name x p) args [] pos =>
    if gl b.sc x && plainName x && decide (x ∈ G.free) && decide (x = ("range" : Str)) then
      match args with
      | [a] => (cE false b a).map fun a => (.range, [a])
      | [a, c] => (cE false b a).bind fun a => (cE false b c).map fun c => (.range, [a, c])
      | [a, c, d] => (cE false b a).bind fun a => (cE false b c).bind fun c => (cE false b d).map fun d => (.range, [a, c, d])
      | _ => none
    else if gl b.sc x && plainName x && decide (x ∈ G.free) && decide (x = ("zip" : Str)) && tt then
      match args with
      | [a, c] => (cE ob b a).bind fun a => (cE ob b c).map fun c => (.zip, [a, c])
      | _ => none
    else if gl b.sc x && plainName x && decide (x ∈ G.free) && decide (x = ("enumerate" : Str)) && tt then
      match args with
      | [a] => (cE ob b a).map fun a => (.enum, [a])
      | _ => none
    else (cE ob b (.Call (.Name x p) args [] pos)).map fun a => (.ex, [a])
  | .Set _ _ _ => none
  | e => (cE ob b e).map fun a => (.ex, [a])
def cArgs (cE : Expr → Option Ex) : List Expr → Option (List Ex)
  | [] => some []
  | e :: es => (cE e).bind fun a => (cArgs cE es).map fun r => a :: r
/-- and, or -/
def cBool (cE : Expr → Option Ex) (op : BoolOp) : List Expr → Option Ex
  | [] => none
  | [e] => cE e
  | e :: es => (cE e).bind fun a => (cBool cE op es).map fun r => match op with
    | .And => .and_ a r
    | .Or => .or_ a r
/-- expressions; ob: whether a list of the def's own may be borrowed -/
def cE : Nat → Bool → Bl → Expr → Option Ex
  | 0, _, _, _ => none
  | n + 1, ob, b, e => match e with
    | .Constant (.int i) _ _ => some (.cst (.int i))
    | .Constant (.bool i) _ _ => some (.cst (.bl i))
    | .Constant (.str i) _ _ => some (.cst (.str i))
    | .Constant .none _ _ => some (.cst .non)
    | .Name x _ => if plainName x then
        if vis b.sc x then (slot N x).bind fun i => if i ∈ own then (if ob then some (.loc i) else none) else some (.loc i)
        else if gl b.sc x then (match G.consts.lookup x with
          | some d => some (.cst d)
          | none => if x ∈ G.fns then some (.cst (.fn x)) else none)
        else none
      else none
    | .BinOp l op r _ => (bopOf op).bind fun o => (cE n true b l).bind fun a => (cE n true b r).map fun c => .bin o a c
    | .UnaryOp .USub a _ => (cE n false b a).map .neg
    | .UnaryOp .Not a _ => (cE n false b a).map .not_
    | .Compare l [op] [r] _ => if behindInMarks op r then none else (copOf op).bind fun o => (cE n true b l).bind fun a => (cE n true b r).map fun c => .cmp o a c
    | .Compare l [op, op'] [r, r'] _ => if behindInMarks op' r' then none else (copOf op).bind fun o => (copOf op').bind fun o' => (cE n true b l).bind fun a => (cE n true b r).bind fun c => (cE n true b r').map fun d => .chain o o' a c d
    | .BoolOp op vs _ => cBool (cE n false b) op vs
    | .IfExp c x y _ => (cE n false b c).bind fun c => (cE n false b x).bind fun x => (cE n false b y).map fun y => .ite c x y
    | .Tuple es _ _ => (cArgs (cE n false b) es).map .tup
    | .List es _ => (cArgs (cE n false b) es).map .lst
    | .Call (.Name x _) args [] _ => if gl b.sc x && plainName x then
        if x ∈ G.fns then (cArgs (cE n false b) args).map (.call x)
        else if x ∈ G.free then
          if x = ("isinstance" : Str) then (match args with
            | [a, .Name t _] => if gl b.sc t && plainName t && decide (t ∈ G.free) then (isOf t).bind fun i => (cE n true b a).map fun a => .bi i [a] else none
            | _ => none)
          else (match args with
            | [] => none
            | a :: as => (biOf x).bind fun i => (cArgs (cE n true b) (a :: as)).map (.bi i))
        else none
      else none
    | .Call (.Attribute o m apos) [a] [] pos => if oneLine apos pos && notCall o then (meOf m).bind fun m => (cE n true b o).bind fun o => (cE n false b a).map fun a => .me m o [a] else none
    | .Subscript a (.Slice lo hi none _) _ => (cE n true b a).bind fun a =>
        (match lo with | none => some none | some e => (cE n false b e).map some).bind fun lo =>
        (match hi with | none => some none | some e => (cE n false b e).map some).map fun hi => .slc a lo hi
    | .Subscript a i _ => (cE n true b a).bind fun a => (cE n false b i).map fun i => .idx a i
    | .ListComp elt [⟨tg, iter, ifs, 0⟩] scope _ =>
        let own' := ownOf N scope
        let b' : Bl := ⟨relS scope b.sc, fun x => scope.names.lookup x == some .cell⟩
        if blkC N b.sc scope own' then
          (cG N own b' 20 tg).bind fun t => if t.slots.all fun i => decide (i ∈ ownIx N scope) then
            (cI G (cE n) true (isTup tg) b iter).bind fun it =>
            (match ifs with | [] => some none | [c] => (cE n false b' c).map some | _ => none).bind fun c =>
            (cE n false b' elt).map fun e => .comp (ownIx N scope) t it.1 it.2 c e
          else none
        else none
    | _ => none
end

/-! ### statements, defs, the module -/
section
variable (G : Glob) (N : List Str) (own : List Nat) (mkr : Bool)
/-- local names of a def, each once, on one line -/
def parNames (b : Bl) : List Expr → Option (List (Str × Nat × Pos))
  | [] => some []
  | .Name x p :: r => if b.sc.names.lookup x == some .local then (slot N x).bind fun i => if i ∈ own then none else (parNames b r).map fun l => (x, i, p) :: l else none
  | _ => none
def samePlace (l : List (Str × Nat × Pos)) : Bool := match l with
  | [] => false
  | p :: r => r.all fun q => q.2.2.line == p.2.2.line
def nodupB (l : List Nat) : Bool := match l with
  | [] => true
  | x :: r => decide (x ∉ r) && nodupB r
def nodupS (l : List Str) : Bool := match l with
  | [] => true
  | x :: r => decide (x ∉ r) && nodupS r
def isListE : Expr → Bool
  | .List _ _ => true
  | _ => false
def isComp : Expr → Bool
  | .ListComp _ _ _ _ => true
  | .SetComp _ _ _ _ => true
  | .DictComp _ _ _ _ _ => true
  | _ => false
def cS : Nat → Bl → Stmt → Option St
  | 0, _, _ => none
  | n + 1, b, st => match st with
    | .Assign [.Name x p] e pos => if loc b x then (slot N x).bind fun i =>
        if i ∈ own then (if isListE e then (cE G N own 60 false b e).map (.asg (.nm i)) else none)
        else match e with
          | .ListComp elt [⟨tg, iter, ifs, 0⟩] scope cpos =>
            if b.sc.names.lookup x == some .local && (p.line == cpos.line) && !(scope.names.any fun (n, k) => n == x && (k == .local || k == .cell)) then (cE G N own 60 false b e).map (.asg (.nm i)) else none
          | _ => if isComp e then none else (cE G N own 60 false b e).map (.asg (.nm i))
      else none
    | .Assign [.Tuple ts k tp] e pos => match e with
      | .Tuple vs _ _ =>
        if vs.length = 2 || vs.length = 3 then
          if vs.all (foldedForSure 8) then
            (cG N own b 20 (.Tuple ts k tp)).bind fun t => (cE G N own 60 false b e).map (.asg t)
          else if vs.all (constantsAlone 8) then none
          else (parNames N own b ts).bind fun l => if l.length = vs.length && samePlace l && nodupB (l.map fun p => p.2.1) then
            (cE G N own 60 false b e).map (.asg (.tup (l.map fun p => .nm p.2.1))) else none
        else (cG N own b 20 (.Tuple ts k tp)).bind fun t => (cE G N own 60 false b e).map (.asg t)
      | _ => if isComp e then none else (cG N own b 20 (.Tuple ts k tp)).bind fun t => (cE G N own 60 false b e).map (.asg t)
    | .Assign [.Subscript o i _] v _ => match i with
      | .Slice _ _ _ _ => none
      | _ => if isComp v then none else (cE G N own 60 false b v).bind fun v => (cE G N own 60 false b o).bind fun o => (cE G N own 60 false b i).map fun i => .setR o i v
    | .Expr (.Call (.Attribute (.Name x p) m apos) [a] [] cpos) pos =>
      if m = ("append" : Str) && oneLine apos cpos then (slot N x).bind fun i => if vis b.sc x && plainName x && decide (i ∈ own) then (cE G N own 60 false b a).map (.app i) else none
      else none
    | .Expr e _ => match e with
      | .Call (.Name _ _) _ _ _ => (cE G N own 60 false b e).map .ex
      | _ => none
    | .Return (some e) _ => match e with
      | .List es _ => if mkr then (cArgs (cE G N own 60 false b) es).map fun l => .ret (.new l) else (cE G N own 60 false b e).map .ret
      | .Name x _ => (match slot N x with
        | some i => if i ∈ own then (if plainName x && vis b.sc x then some (.ret (.loc i)) else none) else (cE G N own 60 false b e).map .ret
        | none => (cE G N own 60 false b e).map .ret)
      | _ => (cE G N own 60 false b e).map .ret
    | .Return none _ => some .retN
    | .If c x y _ => (cE G N own 60 false b c).bind fun c => (cArgsS (cS n b) x).bind fun x => (cArgsS (cS n b) y).map fun y => .ite c x y
    | .For tg iter body [] _ => (cG N own b 20 tg).bind fun t => (cI G (cE G N own 60) false (isTup tg) b iter).bind fun it => (cArgsS (cS n b) body).map fun body => .for_ t it.1 it.2 body
    | .While c body [] _ => (cE G N own 60 false b c).bind fun c => (cArgsS (cS n b) body).map fun body => .while_ c body
    | .Raise _ _ _ => some .never
    | .Pass _ => some .pass
    | .Break _ => some .brk
    | .Continue _ => some .cnt
    | _ => none
where
  cArgsS (c : Stmt → Option St) : List Stmt → Option (List St)
    | [] => some []
    | s :: r => (c s).bind fun a => (cArgsS c r).map fun l => a :: l
end
/-- a def by its place, its slots' names, its own lists' slots -/
structure Item where
  name : Str
  at_ : Nat
  ps : List Str
  N : List Str
  own : List Nat
  mkr : Bool
def kindFn (sc : Scope) : Bool := (match sc.kind with | .function => true | _ => false) && !sc.isGenerator && !sc.isCoroutine
def scopeOk (N ps : List Str) (sc : Scope) : Bool :=
  kindFn sc && nodupS N && decide (N.take ps.length = ps) && (ps.all fun x => match sc.names.lookup x with | some .local => true | some .cell => true | _ => false) &&
    sc.names.all fun y => match y.2 with | .free => false | _ => true
def argNames : Arguments → Option (List Str)
  | ⟨[], as, none, [], [], none, []⟩ => some (as.map (·.arg))
  | _ => none
def cF (G : Glob) (it : Item) (st : Stmt) : Option Fn := match st with
  | .FunctionDef name args body [] none [] scope none bind _ =>
    if decide (name = it.name) && decide (bind = it.name) && scopeOk it.N it.ps scope && decide (argNames args = some it.ps) && it.own.all (fun i => decide (it.ps.length ≤ i)) then
      (cS.cArgsS (cS G it.N it.own it.mkr 30 ⟨scope, fun _ => true⟩) body).map fun b => ⟨it.ps.length, it.N.length, b⟩
    else none
  | _ => none
def mkProg (G : Glob) (body : List Stmt) : List Item → Option Prog
  | [] => some []
  | it :: r => (body[it.at_]?).bind fun st => (cF G it st).bind fun f => (mkProg G body r).map fun P => (it.name, f) :: P
end Ly
/-! Ly: the evaluator's terms tell what the text's trees do: expressions. -/
namespace Ly
open PySem PySem.Spec PyProof.Rows L2 PySem.SeqAt

/-- a call of a def, by the evaluator -/
def spF (K : PySem.W.Frag) (mg : Str → Option Value) (P : Prog) (k : Nat) (x : Str) : Sp := fun vs H Q E =>
  ∃ W S ds, W.H = H ∧ Rep K mg W S ∧ RepDs K mg W ds vs ∧ Out K mg E W (callP P k x ds S) fun d _ W' => ∀ v, RepD K mg W' d v → Q v W'.H
/-- where an expression stands -/
structure Good (CXx : CXT) (G : Glob) (P : Prog) (k : Nat) (N : List Str) (E : XK) (b : Bl) (X : Cx) : Prop where
  calm : X.calm = true
  hN : X.N = N
  nd : N.Nodup
  sc : X.env.scope = b.sc
  fo : ∀ x, b.fo x = true → X.fn x = true
  room : Room (k + 1) X.A
  pass : Passes CXx X E
  e0 : ∀ outer H s e s', ¬ CXx outer H s E0 e s'
  consts : ∀ x d, G.consts.lookup x = some d → ∃ v u, X.mg x = some u ∧ RelV v u ∧ ∀ W : Wd, RepD X.K X.mg W d v
  free : ∀ x, x ∈ G.free → X.mg x = none
  fns : ∀ x, x ∈ G.fns → ∃ f fd ps, X.mg x = some (.ref f) ∧ PySem.W.keepIn X.K (.ref f) = true ∧ Binds X.K fd ps [] ∧
    FnOk X.prog X.w X.K X.mg X.base CXx (k + 1) f fd ps (spF X.K X.mg P k x)
section
variable {CXx : CXT} {G : Glob} {P : Prog} {k : Nat} {N : List Str} {E : XK} {b : Bl} {X : Cx}
theorem slot_get {x : Str} {i : Nat} (h : slot N x = some i) : N[i]? = some x := by
  unfold slot at h
  obtain ⟨hi, h1, _⟩ := List.findIdx?_eq_some_iff_getElem.mp h
  rw [List.getElem?_eq_getElem hi]
  simpa using h1
theorem Good.hu (g : Good CXx G P k N E b X) : X.A.units + 64 < cLine := by have := g.room.un; omega
theorem Good.gl (g : Good CXx G P k N E b X) {x : Str} (h : gl b.sc x = true) : Gl X x := by
  show X.env.scope.names.lookup x = _
  rw [g.sc]
  unfold Ly.gl at h
  split at h
  · assumption
  · cases h
theorem Good.vis (g : Good CXx G P k N E b X) {x : Str} (h : vis b.sc x = true) : Vis X.env.scope x := by
  rw [g.sc]
  unfold Ly.vis at h
  split at h
  · exact .inl (by assumption)
  · exact .inr (.inl (by assumption))
  · exact .inr (.inr (by assumption))
  · cases h
theorem Good.loc (g : Good CXx G P k N E b X) {x : Str} (h : loc b x = true) : Loc X.env.scope x ∧ (X.fn x = true ∨ X.env.scope.names.lookup x = some .local) := by
  rw [g.sc]
  unfold Ly.loc at h
  split at h
  · rename_i e
    exact ⟨.inl e, .inr e⟩
  · rename_i e
    exact ⟨.inr e, .inl (g.fo x h)⟩
  · cases h
theorem plain_inv {x : Str} (h : plainName x = true) : (x == ("__debug__" : Str)) = false ∧ (x == ("__classdict__" : Str)) = false ∧ x ≠ "__name__" := by
  unfold plainName at h
  simp only [Bool.and_eq_true, Bool.not_eq_true'] at h
  exact ⟨h.1.1, h.1.2, fun e => by have := h.2; rw [e] at this; simp at this⟩
theorem bind_some {α β : Type} {o : Option α} {f : α → Option β} {y : β} (h : o.bind f = some y) : ∃ x, o = some x ∧ f x = some y := Option.bind_eq_some_iff.mp h
theorem map_some {α β : Type} {o : Option α} {f : α → β} {y : β} (h : o.map f = some y) : ∃ x, o = some x ∧ f x = y := Option.map_eq_some_iff.mp h
theorem bopOf_eq {op : Operator} {o : Bop} (h : bopOf op = some o) : op = bopO o := by cases op <;> first | (cases h; rfl) | cases h
theorem copOf_eq {op : CmpOp} {o : Cop} (h : copOf op = some o) : op = copO o := by cases op <;> (cases h; rfl)

/-! ### what does not begin with a star -/
def noStar : Expr → Bool
  | .Starred _ _ => false
  | _ => true
theorem star_cons {e : Expr} {es : List Expr} {env : PySem.Env} (h : noStar e = true) : starEach (e :: es) env = (false, eval e env) :: starEach es env := by
  cases e <;> first | rfl | cases h
theorem star_any {pos : Pos} {env : PySem.Env} : ∀ {es : List Expr}, (∀ e ∈ es, noStar e = true) → (backTo pos (starEach es env)).any (·.1) = false
  | [], _ => rfl
  | e :: es, h => by
    rw [star_cons (h e List.mem_cons_self)]
    show (false || (backTo pos (starEach es env)).any (·.1)) = false
    rw [star_any fun x hx => h x (List.mem_cons_of_mem _ hx)]; rfl
theorem cE_star {own : List Nat} {n : Nat} {ob : Bool} {e : Expr} {ir : Ex} (h : cE G N own n ob b e = some ir) : noStar e = true := by
  cases n with
  | zero => cases h
  | succ n => cases e <;> first | rfl | cases h

/-! ### the parts -/
section
variable {own : List Nat} {n : Nat}
/-- what the evaluator tells of an expression holds of it -/
def Snd (own : List Nat) (P : Prog) (k : Nat) (E : XK) (X : Cx) (ob : Bool) (e : Expr) (ir : Ex) : Prop :=
  PE X e (tE X.K X.mg E own (callP P k) ob ir) ∧ PT X e (tT X.K X.mg E own (callP P k) ir)
variable {ob : Bool} {e : Expr} {ir : Ex}
theorem Snd.mk' (h : PE X e (tE X.K X.mg E own (callP P k) ob ir)) (he : ∀ whole, isTrue e X.env whole = (do let v ← whole; standAt e.pos; holding [v] (truthy v))) : Snd own P k E X ob e ir := ⟨h, pt_of h he⟩
theorem tE_cst {K : PySem.W.Frag} {mg : Str → Option Value} {cf : CF} {d : D} {v : V} {σ : L2.St} {H : Hp} {Q : VK} (h : tE K mg E own cf ob (.cst d) σ H Q) (r : ∀ W : Wd, RepD K mg W d v) : Q v H := by
  obtain ⟨W, S, en, rfl, R, rr, q⟩ := h
  exact q W (Ext.refl W) R v (RepM.of (r W))
theorem snd_const (c : PySem.Const) (d : D) (v : V) {j : Nat} {pos : Pos} (h : PE X (.Constant c j pos) (tC v)) (r : ∀ W : Wd, RepD X.K X.mg W d v) : Snd own P k E X ob (.Constant c j pos) (.cst d) :=
  .mk' (pe_imp h fun σ H Q q => tE_cst q r) fun _ => rfl
theorem snd_slot (g : Good CXx G P k N E b X) {x : Str} {pos : Pos} {i : Nat} (hp : plainName x = true) (hv : Ly.vis b.sc x = true) (hi : slot N x = some i) (ho : i ∈ own → ob = true) : Snd own P k E X ob (.Name x pos) (.loc i) := by
  obtain ⟨p1, p2, p3⟩ := plain_inv hp
  refine .mk' (pe_imp (pe_var (by rw [g.hN]; exact slot_get hi) (g.vis hv) p1 p2) fun σ H Q q => ?_) fun _ => rfl
  obtain ⟨W, S, en, rfl, R, rr, q⟩ := q
  rw [evE] at q
  split at q
  · rename_i d hd
    have q := q W (Ext.refl W) R
    by_cases hm : i ∈ own
    · obtain ⟨a, vs, xs, rfl, h1, h2, h3, h4, h5⟩ := rr.mine i d hd hm
      cases ho hm
      exact ⟨.ref a, h1, q _ (RepB.own h2 h4 h5)⟩
    · obtain ⟨v, h1, h2⟩ := rr.val i d hd hm
      exact ⟨v, h1, q v (RepM.of h2)⟩
  · exact q.elim
theorem snd_glob (g : Good CXx G P k N E b X) {x : Str} {pos : Pos} {d : D} (hp : plainName x = true) (hg : Ly.gl b.sc x = true) (hc : G.consts.lookup x = some d) : Snd own P k E X ob (.Name x pos) (.cst d) := by
  obtain ⟨v, u, h1, h2, h3⟩ := g.consts x d hc
  exact .mk' (pe_imp (pe_glob (g.gl hg) h1 h2 (plain_inv hp).1) fun σ H Q q => tE_cst q h3) fun _ => rfl
theorem snd_fn (g : Good CXx G P k N E b X) {x : Str} {pos : Pos} (hp : plainName x = true) (hg : Ly.gl b.sc x = true) (hf : x ∈ G.fns) : Snd own P k E X ob (.Name x pos) (.cst (.fn x)) := by
  obtain ⟨f, fd, ps, h1, _⟩ := g.fns x hf
  exact .mk' (pe_imp (pe_glob (v := .ref f) (g.gl hg) h1 rfl (plain_inv hp).1) fun σ H Q q => tE_cst q fun W => .fn h1) fun _ => rfl
theorem then_of {K : PySem.W.Frag} {mg : Str → Option Value} {W : Wd} {S : Sto} {d : D} {Q : VK} (h : ∀ W', Ext W W' → Rep K mg W' S → ∀ v, RepM ob K mg W' d v → Q v W'.H) : Then K mg W S d Q :=
  fun W' v x R r => h W' x R v (RepM.of r)
theorem snd_bin (g : Good CXx G P k N E b X) {l r : Expr} {o : Bop} {a c : Ex} {pos : Pos} (h1 : Snd own P k E X true l a) (h2 : Snd own P k E X true r c) : Snd own P k E X ob (.BinOp l (bopO o) r pos) (.bin o a c) := by
  refine .mk' (pe_imp (pe_op (op_bin o X.mg) h1.1 h2.1) fun σ H Q q => tE_two (fun en S => by rw [evE]) (fun W S x y v u R rx ry q => ?_) q) fun _ => rfl
  obtain ⟨d, e, q⟩ := q.lift
  exact ⟨W, S, _, _, d, rfl, R, view_at R rx, view_at R ry, e, then_of q⟩
theorem snd_neg (g : Good CXx G P k N E b X) {e : Expr} {a : Ex} {pos : Pos} (h : Snd own P k E X false e a) : Snd own P k E X ob (.UnaryOp .USub e pos) (.neg a) := by
  refine .mk' (pe_imp (pe_un un_neg h.1) fun σ H Q q => ?_) fun _ => rfl
  obtain ⟨W, S, en, rfl, R, rr, q⟩ := q
  rw [evE] at q
  refine tE_of R rr (q.bind.mono fun x S1 W1 x1 R1 q1 v hv rr1 _ => ?_)
  split at q1
  · rename_i i
    exact ⟨i, hv.b.int_inv, q1 W1 (Ext.refl W1) R1 _ (RepM.of (.int _))⟩
  · exact q1.elim
theorem snd_not (g : Good CXx G P k N E b X) {e : Expr} {a : Ex} {pos : Pos} (h : Snd own P k E X false e a) : Snd own P k E X ob (.UnaryOp .Not e pos) (.not_ a) := by
  refine ⟨pe_imp (pe_not h.1) fun σ H Q q => ?_, pt_imp (pt_not h.2) fun σ H Q q => ?_⟩
  · obtain ⟨W, S, en, rfl, R, rr, q⟩ := q
    rw [evE] at q
    refine tE_of R rr (q.bind.mono fun x S1 W1 x1 R1 q1 v hv rr1 _ => ?_)
    split at q1
    · rename_i i
      exact ⟨i, hv.b.bl_inv, q1 W1 (Ext.refl W1) R1 _ (RepM.of (.bl _))⟩
    · exact q1.elim
  · obtain ⟨W, S, en, rfl, R, rr, q⟩ := q
    rw [evE] at q
    refine ⟨W, S, en, rfl, R, rr, q.bind.mono fun x S1 W1 x1 R1 q1 => ?_⟩
    split at q1
    · rename_i i
      obtain ⟨c, e, q⟩ := q1 W1 (Ext.refl W1) R1
      cases e
      exact ⟨i, rfl, q⟩
    · exact q1.elim
theorem snd_cmp (g : Good CXx G P k N E b X) {l r : Expr} {o : Cop} {a c : Ex} {pos : Pos} (hm : behindInMarks (copO o) r = false) (h1 : Snd own P k E X true l a) (h2 : Snd own P k E X true r c) : Snd own P k E X ob (.Compare l [copO o] [r] pos) (.cmp o a c) := by
  have op : ∀ (Q : VK) (W : Wd) (S : Sto) (x y : D) (v u : V), Rep X.K X.mg W S → RepM true X.K X.mg W x v → RepM true X.K X.mg W y u → Out X.K X.mg E W (lift ((cmpop o (view S x) (view S y)).map D.bl) S) (fun d _ W' => ∀ v, RepM ob X.K X.mg W' d v → Q v W'.H) → rCmp X.K X.mg o v u W.H Q := fun Q W S x y v u R rx ry q => by
    obtain ⟨d, e, q⟩ := q.lift
    obtain ⟨c, e2, rfl⟩ := map_some e
    exact ⟨W, _, _, c, rfl, view_at R rx, view_at R ry, e2, q W (Ext.refl W) R _ (RepM.of (.bl c))⟩
  refine ⟨pe_imp (pe_cmpR (op_cmp o X.mg g.hu) h1.1 h2.1 hm) fun σ H Q q => tE_two (fun en S => by rw [evE]) (op Q) q,
    pt_imp (pt_cmpR (op_cmp o X.mg g.hu) h1.1 h2.1 hm) fun σ H Q q => tE_two (b3 := ob) (fun en S => by rw [evE]) (op fun x H' => ∃ k, x = V.bl k ∧ Q k H') (tT_B q)⟩
theorem snd_chain (g : Good CXx G P k N E b X) {l r s : Expr} {o o' : Cop} {a c d : Ex} {pos : Pos} (hm : behindInMarks (copO o') s = false) (h1 : Snd own P k E X true l a) (h2 : Snd own P k E X true r c) (h3 : Snd own P k E X true s d) :
    Snd own P k E X ob (.Compare l [copO o, copO o'] [r, s] pos) (.chain o o' a c d) := by
  have key : ∀ {σ : L2.St} {H : Hp} {Q : VK}, tE X.K X.mg E own (callP P k) ob (.chain o o' a c d) σ H Q → tChain (rCmp X.K X.mg o) (rCmp X.K X.mg o') (tE X.K X.mg E own (callP P k) true a) (tE X.K X.mg E own (callP P k) true c) (tE X.K X.mg E own (callP P k) true d) σ H Q := fun {σ H Q} q => by
    obtain ⟨W, S, en, rfl, R, rr, q⟩ := q
    rw [evE] at q
    refine tE_of R rr (q.bind.mono fun x S1 W1 x1 R1 q1 v hv rr1 _ => ?_)
    refine tE_of R1 rr1 (q1.bind.mono fun y S2 W2 x2 R2 q2 u hu rr2 _ => ?_)
    split at q2
    · rename_i e
      refine ⟨W2, _, _, true, rfl, view_at R2 (RepB.ext x2 R1.sub hv), view_at R2 hu, e, true, rfl, ?_⟩
      refine iteT ?_
      refine tE_of R2 rr2 (q2.bind.mono fun z S3 W3 x3 R3 q3 w hw rr3 _ => ?_)
      obtain ⟨d, e, q⟩ := q3.lift
      obtain ⟨c, e2, rfl⟩ := map_some e
      exact ⟨W3, _, _, c, rfl, view_at R3 (RepB.ext x3 R2.sub hu), view_at R3 hw, e2, q W3 (Ext.refl W3) R3 _ (RepM.of (.bl c))⟩
    · rename_i e
      refine ⟨W2, _, _, false, rfl, view_at R2 (RepB.ext x2 R1.sub hv), view_at R2 hu, e, false, rfl, ?_⟩
      refine iteF ?_
      exact q2 W2 (Ext.refl W2) R2 _ (RepM.of (.bl false))
    · exact q2.elim
  have hl : lastMarks [copO o, copO o'] [r, s] = false := hm
  exact ⟨pe_imp (pe_chain (op_cmp o X.mg g.hu) (op_cmp o' X.mg g.hu) h1.1 h2.1 h3.1 hl) fun σ H Q q => key q,
    pt_imp (pt_chain (op_cmp o X.mg g.hu) (op_cmp o' X.mg g.hu) h1.1 h2.1 h3.1 hl) fun σ H Q q => key (tT_B q)⟩
theorem snd_ite (g : Good CXx G P k N E b X) {c x y : Expr} {ic ix iy : Ex} {pos : Pos} (h1 : Snd own P k E X false c ic) (h2 : Snd own P k E X false x ix) (h3 : Snd own P k E X false y iy) : Snd own P k E X ob (.IfExp c x y pos) (.ite ic ix iy) := by
  constructor
  · refine pe_imp (pe_ifExp h1.2 h2.1 h3.1) fun σ H Q q => ?_
    obtain ⟨W, S, en, rfl, R, rr, q⟩ := q
    rw [evE] at q
    refine ⟨W, S, en, rfl, R, rr, q.bind.mono fun d S1 W1 x1 R1 q1 => ?_⟩
    have rr1 := rr.ext x1 R.sub
    split at q1
    · exact ⟨true, rfl, iteT <| tE_of R1 rr1 (q1.mono fun d S2 W2 _ _ q v hv _ _ => q v (RepM.of hv))⟩
    · exact ⟨false, rfl, iteF <| tE_of R1 rr1 (q1.mono fun d S2 W2 _ _ q v hv _ _ => q v (RepM.of hv))⟩
    · exact q1.elim
  · refine ⟨fun pins s σ H Q I q => ?_⟩
    obtain ⟨W, S, en, rfl, R, rr, q⟩ := q
    rw [evE] at q
    refine isTrue_IfExp (thn (h1.2.run pins s σ W.H (fun c H1 => if c = true then tT X.K X.mg E own (callP P k) ix σ H1 Q else tT X.K X.mg E own (callP P k) iy σ H1 Q) I ⟨W, S, en, rfl, R, rr, q.bind.mono fun d S1 W1 x1 R1 q1 => ?_⟩) fun d s1 ⟨H1, I1, q1⟩ => ?_)
    · have rr1 := rr.ext x1 R.sub
      split at q1
      · exact ⟨true, rfl, iteT <| ⟨W1, S1, en, rfl, R1, rr1, q1⟩⟩
      · exact ⟨false, rfl, iteF <| ⟨W1, S1, en, rfl, R1, rr1, q1⟩⟩
      · exact q1.elim
    · cases d with
      | true => exact h2.2.run pins s1 σ H1 Q I1 q1
      | false => exact h3.2.run pins s1 σ H1 Q I1 q1
/-! and, or -/
theorem snd_bool (g : Good CXx G P k N E b X) {op : BoolOp} {cE' : Expr → Option Ex} (ih : ∀ ob e ir, cE' e = some ir → Snd own P k E X ob e ir) : ∀ (vs : List Expr) (ir : Ex) (pos : Pos), cBool cE' op vs = some ir →
    PE X (.BoolOp op vs pos) (tE X.K X.mg E own (callP P k) ob ir) ∧ PW X (.BoolOp op vs pos) (tT X.K X.mg E own (callP P k) ir)
  | [], _, _, h => by cases h
  | [e], ir, pos, h => by
    have s := ih ob e ir h
    cases op with
    | And => exact ⟨pe_one s.1, pw_and1 s.2⟩
    | Or => exact ⟨pe_one s.1, pw_or1 s.2⟩
  | e :: e2 :: es, ir, pos, h => by
    obtain ⟨a, h1, h⟩ := bind_some h
    obtain ⟨r, h2, h⟩ := map_some h
    have s := ih false e a h1
    have s2 := snd_bool g ih (e2 :: es) r pos h2
    cases op with
    | And =>
      subst h
      refine ⟨pe_imp (pe_and s.1 s2.1) fun σ H Q q => ?_, pw_imp (pw_and s.2 s2.2) fun σ H Q q => ?_⟩
      · obtain ⟨W, S, en, rfl, R, rr, q⟩ := q
        rw [evE] at q
        refine tE_of R rr (q.bind.mono fun x S1 W1 x1 R1 q1 v hv rr1 _ => ?_)
        split at q1
        · exact ⟨true, hv.b.bl_inv, iteT <| ⟨W1, S1, en, rfl, R1, rr1, q1⟩⟩
        · exact ⟨false, hv.b.bl_inv, iteF <| q1 W1 (Ext.refl W1) R1 _ (RepM.of (.bl false))⟩
        · exact q1.elim
      · obtain ⟨W, S, en, rfl, R, rr, q⟩ := q
        rw [evE] at q
        refine ⟨W, S, en, rfl, R, rr, q.bind.mono fun x S1 W1 x1 R1 q1 => ?_⟩
        have rr1 := rr.ext x1 R.sub
        split at q1
        · exact ⟨true, rfl, iteT <| ⟨W1, S1, en, rfl, R1, rr1, q1⟩⟩
        · obtain ⟨c, e, q⟩ := q1 W1 (Ext.refl W1) R1
          cases e
          exact ⟨false, rfl, iteF <| q⟩
        · exact q1.elim
    | Or =>
      subst h
      refine ⟨pe_imp (pe_or s.1 s2.1) fun σ H Q q => ?_, pw_imp (pw_or s.2 s2.2) fun σ H Q q => ?_⟩
      · obtain ⟨W, S, en, rfl, R, rr, q⟩ := q
        rw [evE] at q
        refine tE_of R rr (q.bind.mono fun x S1 W1 x1 R1 q1 v hv rr1 _ => ?_)
        split at q1
        · exact ⟨true, hv.b.bl_inv, iteT <| q1 W1 (Ext.refl W1) R1 _ (RepM.of (.bl true))⟩
        · exact ⟨false, hv.b.bl_inv, iteF <| ⟨W1, S1, en, rfl, R1, rr1, q1⟩⟩
        · exact q1.elim
      · obtain ⟨W, S, en, rfl, R, rr, q⟩ := q
        rw [evE] at q
        refine ⟨W, S, en, rfl, R, rr, q.bind.mono fun x S1 W1 x1 R1 q1 => ?_⟩
        have rr1 := rr.ext x1 R.sub
        split at q1
        · obtain ⟨c, e, q⟩ := q1 W1 (Ext.refl W1) R1
          cases e
          exact ⟨true, rfl, iteT <| q⟩
        · exact ⟨false, rfl, iteF <| ⟨W1, S1, en, rfl, R1, rr1, q1⟩⟩
        · exact q1.elim
/-! arguments -/
theorem snd_args (g : Good CXx G P k N E b X) {ob' : Bool} {cE' : Expr → Option Ex} (st : ∀ e ir, cE' e = some ir → noStar e = true) (ih : ∀ e ir, cE' e = some ir → Snd own P k E X ob' e ir) : ∀ (es : List Expr) (irs : List Ex), cArgs cE' es = some irs →
    PA X es (tEs X.K X.mg E own (callP P k) ob' irs) ∧ ∀ e ∈ es, noStar e = true
  | [], irs, h => by
    cases h
    refine ⟨pa_imp pa_nil fun σ H Q q => ?_, fun e h => by cases h⟩
    obtain ⟨W, S, en, rfl, R, rr, q⟩ := q
    rw [evEs] at q
    refine q W (Ext.refl W) R [] ?_
    unfold RepMs
    split
    · exact .nil
    · exact .nil
  | e :: es, irs, h => by
    obtain ⟨a, h1, h⟩ := bind_some h
    obtain ⟨r, h2, h⟩ := map_some h
    subst h
    have s := ih e a h1
    have ns := st e a h1
    obtain ⟨s2, n2⟩ := snd_args g st ih es r h2
    refine ⟨pa_imp (pa_cons s.1 s2 (star_cons ns)) fun σ H Q q => ?_, fun x hx => (List.mem_cons.mp hx).elim (fun z => by rw [z]; exact ns) (n2 x)⟩
    obtain ⟨W, S, en, rfl, R, rr, q⟩ := q
    rw [evEs] at q
    refine tE_of R rr (q.bind.mono fun x S1 W1 x1 R1 q1 v hv rr1 _ => ?_)
    refine ⟨W1, S1, en, rfl, R1, rr1, q1.bind.mono fun ds S2 W2 x2 R2 q2 vs hvs => q2 W2 (Ext.refl W2) R2 (v :: vs) ?_⟩
    unfold RepM at hv
    unfold RepMs at hvs ⊢
    split
    · rename_i hb
      rw [if_pos hb] at hv hvs
      exact .cons (hv.ext x2 R1.sub) hvs
    · rename_i hb
      rw [if_neg hb] at hv hvs
      exact .cons (hv.ext x2 R1.sub) hvs
theorem snd_tup (g : Good CXx G P k N E b X) {es : List Expr} {irs : List Ex} {j : Nat} {pos : Pos} (h : PA X es (tEs X.K X.mg E own (callP P k) false irs)) : Snd own P k E X ob (.Tuple es j pos) (.tup irs) := by
  refine .mk' (pe_imp (pe_tup h) fun σ H Q q => ?_) fun _ => rfl
  obtain ⟨W, S, en, rfl, R, rr, q⟩ := q
  rw [evE] at q
  refine ⟨W, S, en, rfl, R, rr, q.bind.mono fun ds S1 W1 x1 R1 q1 vs hvs => ?_⟩
  have hvs : RepDs X.K X.mg W1 ds vs := hvs
  split at q1
  · rename_i hz
    refine ⟨by rw [← hvs.length, ← line_eq]; exact hz, fun p hn => ?_⟩
    exact Then.tup (fun W' v x R' r => q1 W' x R' v (RepM.of r)) R1 hvs p hn
  · exact q1.elim
theorem snd_lst (g : Good CXx G P k N E b X) {es : List Expr} {irs : List Ex} {pos : Pos} (h : PA X es (tEs X.K X.mg E own (callP P k) false irs)) : Snd own P k E X ob (.List es pos) (.lst irs) := by
  refine .mk' (pe_imp (pe_lst h) fun σ H Q q => ?_) fun _ => rfl
  obtain ⟨W, S, en, rfl, R, rr, q⟩ := q
  rw [evE] at q
  refine ⟨W, S, en, rfl, R, rr, q.bind.mono fun ds S1 W1 x1 R1 q1 vs hvs => ?_⟩
  have hvs : RepDs X.K X.mg W1 ds vs := hvs
  split at q1
  · rename_i hz
    refine ⟨by rw [← hvs.length, ← line_eq]; exact hz, fun p hn => ?_⟩
    exact Then.lst (fun W' v x R' r => q1 W' x R' v (RepM.of r)) R1 hvs p hn
  · exact q1.elim
theorem snd_call (g : Good CXx G P k N E b X) {x : Str} {es : List Expr} {irs : List Ex} {p pos : Pos} (hg : Ly.gl b.sc x = true) (hp : plainName x = true) (hf : x ∈ G.fns) (h : PA X es (tEs X.K X.mg E own (callP P k) false irs)) (ns : ∀ e ∈ es, noStar e = true) (hl : es = [] → irs = []) :
    Snd own P k E X ob (.Call (.Name x p) es [] pos) (.call x irs) := by
  obtain ⟨f, fd, ps, m1, m2, m3, F⟩ := g.fns x hf
  have key : ∀ {σ : L2.St} {H : Hp} {Q : VK}, tE X.K X.mg E own (callP P k) ob (.call x irs) σ H Q → tCall (spF X.K X.mg P k x) [] E (tEs X.K X.mg E own (callP P k) false irs) σ H Q := fun {σ H Q} q => by
    obtain ⟨W, S, en, rfl, R, rr, q⟩ := q
    rw [evE] at q
    refine ⟨W, S, en, rfl, R, rr, q.bind.mono fun ds S1 W1 x1 R1 q1 vs hvs => ?_⟩
    show spF X.K X.mg P k x (vs ++ []) W1.H Q E
    rw [List.append_nil]
    exact ⟨W1, S1, ds, rfl, R1, hvs, q1.mono fun d S2 W2 _ _ q v hv => q v (RepM.of hv)⟩
  refine .mk' ?_ fun _ => rfl
  cases es with
  | nil =>
    refine pe_imp (pe_call0 F g.room (g.gl hg) m1 m2 m3 .nil g.pass (plain_inv hp).1) fun σ H Q q => ?_
    have e : irs = [] := hl rfl
    subst e
    obtain ⟨W, S, en, rfl, R, rr, q⟩ := key q
    rw [evEs] at q
    exact q W (Ext.refl W) R [] .nil
  | cons e es =>
    exact pe_imp (pe_call F g.room (g.gl hg) m1 m2 m3 .nil g.pass h (plain_inv hp).1 (star_cons (ns e List.mem_cons_self)) (star_any fun y hy => ns y (List.mem_cons_of_mem _ hy))) fun σ H Q q => key q
theorem cArgs_nil {cE' : Expr → Option Ex} {es : List Expr} {irs : List Ex} (h : cArgs cE' es = some irs) : es = [] → irs = [] := by
  rintro rfl
  cases h
  rfl
/-! built-in functions -/
def bootOf (x : Str) (f : Value) : Prop := bootBuiltins x = some f
theorem biOf_boot {x : Str} {i : Bi} (h : biOf x = some i) : bootBuiltins x = some (biV i) ∧ i ∈ [Bi.len, .tuple, .list, .int, .all, .any, .abs, .str, .sum] := by
  unfold biOf at h
  repeat (split at h; (· rename_i e; cases h; subst e; exact ⟨by decide +kernel, by decide⟩))
  cases h
theorem isOf_boot {x : Str} {i : Bi} (h : isOf x = some i) : ∃ T, bootBuiltins x = some (.type T) ∧ ((i = .isInt ∧ T = "int") ∨ (i = .isBool ∧ T = "bool") ∨ (i = .isStr ∧ T = "str") ∨ (i = .isTuple ∧ T = "tuple") ∨ (i = .isList ∧ T = "list")) := by
  unfold isOf at h
  split at h
  · rename_i e; cases h; subst e; exact ⟨"int", by decide +kernel, .inl ⟨rfl, rfl⟩⟩
  split at h
  · rename_i e; cases h; subst e; exact ⟨"bool", by decide +kernel, .inr (.inl ⟨rfl, rfl⟩)⟩
  split at h
  · rename_i e; cases h; subst e; exact ⟨"str", by decide +kernel, .inr (.inr (.inl ⟨rfl, rfl⟩))⟩
  split at h
  · rename_i e; cases h; subst e; exact ⟨"tuple", by decide +kernel, .inr (.inr (.inr (.inl ⟨rfl, rfl⟩)))⟩
  split at h
  · rename_i e; cases h; subst e; exact ⟨"list", by decide +kernel, .inr (.inr (.inr (.inr ⟨rfl, rfl⟩)))⟩
  cases h
theorem atB_of {K : PySem.W.Frag} {mg : Str → Option Value} {W : Wd} {S : Sto} (R : Rep K mg W S) : ∀ {ds : List D} {vs : List V}, RepBs K mg W ds vs → AtB K mg W (ds.map (view S)) vs
  | _, _, .nil => rfl
  | _, _, .cons h r => ⟨_, _, rfl, view_at R h, atB_of R r⟩
theorem snd_bi (g : Good CXx G P k N E b X) {x : Str} {e : Expr} {es : List Expr} {irs : List Ex} {p pos : Pos} {i : Bi} (hg : Ly.gl b.sc x = true) (hp : plainName x = true) (hf : x ∈ G.free) (hb : biOf x = some i)
    (h : PA X (e :: es) (tEs X.K X.mg E own (callP P k) true irs)) (ns : ∀ y ∈ e :: es, noStar y = true) : Snd own P k E X ob (.Call (.Name x p) (e :: es) [] pos) (.bi i irs) := by
  obtain ⟨b1, b2⟩ := biOf_boot hb
  have cb := call_B (X := X) (mg := X.mg) i g.calm b2
  refine .mk' ⟨fun pins s σ H Q I q => ?_⟩ fun _ => rfl
  obtain ⟨W, S, en, rfl, R, rr, q⟩ := q
  rw [evE] at q
  have key : tCB (rBi X.K X.mg i) (tEs X.K X.mg E own (callP P k) true irs) σ W.H Q := by
    refine ⟨W, S, en, rfl, R, rr, q.bind.mono fun ds S1 W1 x1 R1 q1 vs hvs => ?_⟩
    obtain ⟨d, e, q⟩ := q1.lift
    exact ⟨W1, S1, _, d, rfl, R1, atB_of R1 hvs, e, then_of q⟩
  obtain ⟨p1, p2, p3⟩ := plain_inv hp
  have m := g.free x hf
  have hs := star_cons (es := es) (env := X.env) (ns e List.mem_cons_self)
  have ha := star_any (pos := pos) (env := X.env) fun y hy => ns y (List.mem_cons_of_mem _ hy)
  refine wpAny_Call_Name_kw (ld_blt I (g.gl hg) m b1 ?_ p3 p1)
  simp only [List.mem_cons, List.not_mem_nil, or_false] at b2
  rcases b2 with rfl | rfl | rfl | rfl | rfl | rfl | rfl | rfl | rfl
  · exact PyProof.Rows.callWith_builtin1 (thn (h.run pos pins s σ W.H _ I key) fun us s1 ⟨vs, H1, I1, r1, q1⟩ => cb pins s1 σ H1 vs us Q I1 r1 q1) hs ha
  · exact PyProof.Rows.callWith_type1 (thn (h.run pos pins s σ W.H _ I key) fun us s1 ⟨vs, H1, I1, r1, q1⟩ => cb pins s1 σ H1 vs us Q I1 r1 q1) hs ha
  · exact PyProof.Rows.callWith_type1 (thn (h.run pos pins s σ W.H _ I key) fun us s1 ⟨vs, H1, I1, r1, q1⟩ => cb pins s1 σ H1 vs us Q I1 r1 q1) hs ha
  · exact PyProof.Rows.callWith_type1 (thn (h.run pos pins s σ W.H _ I key) fun us s1 ⟨vs, H1, I1, r1, q1⟩ => cb pins s1 σ H1 vs us Q I1 r1 q1) hs ha
  · exact PyProof.Rows.callWith_builtin1 (thn (h.run pos pins s σ W.H _ I key) fun us s1 ⟨vs, H1, I1, r1, q1⟩ => cb pins s1 σ H1 vs us Q I1 r1 q1) hs ha
  · exact PyProof.Rows.callWith_builtin1 (thn (h.run pos pins s σ W.H _ I key) fun us s1 ⟨vs, H1, I1, r1, q1⟩ => cb pins s1 σ H1 vs us Q I1 r1 q1) hs ha
  · exact PyProof.Rows.callWith_builtin1 (thn (h.run pos pins s σ W.H _ I key) fun us s1 ⟨vs, H1, I1, r1, q1⟩ => cb pins s1 σ H1 vs us Q I1 r1 q1) hs ha
  · exact PyProof.Rows.callWith_type1 (thn (h.run pos pins s σ W.H _ I key) fun us s1 ⟨vs, H1, I1, r1, q1⟩ => cb pins s1 σ H1 vs us Q I1 r1 q1) hs ha
  · exact PyProof.Rows.callWith_builtin1 (thn (h.run pos pins s σ W.H _ I key) fun us s1 ⟨vs, H1, I1, r1, q1⟩ => cb pins s1 σ H1 vs us Q I1 r1 q1) hs ha
theorem snd_isi (g : Good CXx G P k N E b X) {t : Str} {e : Expr} {a : Ex} {p p2 pos : Pos} {i : Bi} (hg : Ly.gl b.sc ("isinstance" : Str) = true) (hf : ("isinstance" : Str) ∈ G.free)
    (hg2 : Ly.gl b.sc t = true) (hp2 : plainName t = true) (hf2 : t ∈ G.free) (hb : isOf t = some i) (h : Snd own P k E X true e a) (ns : noStar e = true) : Snd own P k E X ob (.Call (.Name "isinstance" p) [e, .Name t p2] [] pos) (.bi i [a]) := by
  obtain ⟨T, b1, b2⟩ := isOf_boot hb
  obtain ⟨p1, _, p3⟩ := plain_inv hp2
  have pt : PE X (.Name t p2) (tC (.ty T)) := pe_bltn (g.gl hg2) (g.free t hf2) b1 rfl p3 p1
  have pa : PA X [e, .Name t p2] (tCons (tE X.K X.mg E own (callP P k) true a) (tCons (tC (.ty T)) tNil)) := pa_cons h.1 (pa_cons pt pa_nil rfl) (star_cons ns)
  refine .mk' ⟨fun pins s σ H Q I q => ?_⟩ fun _ => rfl
  obtain ⟨W, S, en, rfl, R, rr, q⟩ := q
  rw [evE, evEs] at q
  have key : tCons (tE X.K X.mg E own (callP P k) true a) (tCons (tC (.ty T)) tNil) σ W.H fun xs H1 => ∃ v W1 d, xs = [v, .ty T] ∧ W1.H = H1 ∧ At X.K X.mg W1 d v ∧ isScalar d = true ∧ ∃ r, builtin i [d] = some r ∧ ∀ v, (∀ W', RepD X.K X.mg W' r v) → Q v H1 := by
    have q := q.bind
    refine tE_of R rr (q.bind.mono fun d S1 W1 x1 R1 q1 v hv rr1 _ => ?_)
    rw [evEs] at q1
    obtain ⟨r, e, q3⟩ := Out.lift (q1 W1 (Ext.refl W1) R1)
    have hd : ∀ d : D, builtin i [d] = some r → isScalar d = true := fun d e => by
      rcases b2 with ⟨rfl, _⟩ | ⟨rfl, _⟩ | ⟨rfl, _⟩ | ⟨rfl, _⟩ | ⟨rfl, _⟩ <;> cases d <;> first | rfl | cases e
    exact ⟨v, W1, view S1 d, rfl, rfl, view_at R1 hv, hd _ e, r, e, fun v hr => q3 W1 (Ext.refl W1) R1 v (RepM.of (hr W1))⟩
  refine wpAny_Call_Name_kw (ld_blt I (g.gl hg) (g.free _ hf) (u := .builtin "isinstance") (by decide +kernel) ?_ (by decide) (by decide))
  refine PyProof.Rows.callWith_builtin1 (thn (pa.run pos pins s σ W.H _ I key) fun us s1 ⟨vs, H1, I1, r1, q1⟩ => ?_) (star_cons ns) rfl
  obtain ⟨v, W1, d, rfl, rfl, hv, hd, r, e, q2⟩ := q1
  rcases b2 with ⟨rfl, rfl⟩ | ⟨rfl, rfl⟩ | ⟨rfl, rfl⟩ | ⟨rfl, rfl⟩ | ⟨rfl, rfl⟩
  · have e1 : r = .bl ((fun n => n == "int" || n == "bool") (tyName d)) := by
      cases d <;> first | (cases e; rfl) | cases hd
    exact isi (fun n => n == "int" || n == "bool") (by decide +kernel) I1 hv hd r1 (q2 _ fun W' => by rw [e1]; exact .bl _)
  · have e1 : r = .bl ((fun n => n == "bool") (tyName d)) := by
      cases d <;> first | (cases e; rfl) | cases hd
    exact isi (fun n => n == "bool") (by decide +kernel) I1 hv hd r1 (q2 _ fun W' => by rw [e1]; exact .bl _)
  · have e1 : r = .bl ((fun n => n == "str") (tyName d)) := by
      cases d <;> first | (cases e; rfl) | cases hd
    exact isi (fun n => n == "str") (by decide +kernel) I1 hv hd r1 (q2 _ fun W' => by rw [e1]; exact .bl _)
  · have e1 : r = .bl ((fun n => n == "tuple") (tyName d)) := by
      cases d <;> first | (cases e; rfl) | cases hd
    exact isi (fun n => n == "tuple") (by decide +kernel) I1 hv hd r1 (q2 _ fun W' => by rw [e1]; exact .bl _)
  · have e1 : r = .bl ((fun n => n == "list") (tyName d)) := by
      cases d <;> first | (cases e; rfl) | cases hd
    exact isi (fun n => n == "list") (by decide +kernel) I1 hv hd r1 (q2 _ fun W' => by rw [e1]; exact .bl _)
/-! places, slices -/
theorem snd_idx (g : Good CXx G P k N E b X) {l r : Expr} {a c : Ex} {pos : Pos} (hs : PlainIx r) (h1 : Snd own P k E X true l a) (h2 : Snd own P k E X false r c) : Snd own P k E X ob (.Subscript l r pos) (.idx a c) := by
  refine .mk' (pe_imp (pe_ix (ix_D (mg := X.mg)) h1.1 h2.1 hs) fun σ H Q q => tE_two (fun en S => by rw [evE]) (fun W S x y v u R rx ry q => ?_) q) fun _ => rfl
  obtain ⟨d, e, q⟩ := q.lift
  exact ⟨W, S, _, _, d, rfl, R, view_at R rx, RepD.at' ry, e, then_of q⟩
theorem snd_part (g : Good CXx G P k N E b X) {e : Option Expr} {o : Option Ex} (h : (e = none ∧ o = none) ∨ ∃ x a, e = some x ∧ o = some a ∧ Snd own P k E X false x a) : PO X e (tOI X.K X.mg E own (callP P k) o) := by
  rcases h with ⟨rfl, rfl⟩ | ⟨x, a, rfl, rfl, h⟩
  · refine ⟨fun pins s σ H Q I q => po_none.run pins s σ H Q I ?_⟩
    obtain ⟨W, S, en, rfl, R, rr, q⟩ := q
    rw [evO] at q
    exact q W (Ext.refl W) R
  · refine ⟨fun pins s σ H Q I q => (po_some h.1).run pins s σ H Q I ?_⟩
    obtain ⟨W, S, en, rfl, R, rr, q⟩ := q
    rw [evO] at q
    refine tE_of R rr (q.bind.mono fun d S1 W1 x1 R1 q1 v hv rr1 _ => ?_)
    split at q1
    · rename_i i
      exact ⟨i, hv.b.int_inv, q1 W1 (Ext.refl W1) R1⟩
    · exact q1.elim
theorem snd_slc (g : Good CXx G P k N E b X) {l : Expr} {lo hi : Option Expr} {a : Ex} {ol oh : Option Ex} {pos p2 : Pos} (h1 : Snd own P k E X true l a)
    (h2 : (lo = none ∧ ol = none) ∨ ∃ x a, lo = some x ∧ ol = some a ∧ Snd own P k E X false x a) (h3 : (hi = none ∧ oh = none) ∨ ∃ x a, hi = some x ∧ oh = some a ∧ Snd own P k E X false x a) :
    Snd own P k E X ob (.Subscript l (.Slice lo hi none p2) pos) (.slc a ol oh) := by
  have sl := sl_D (X := X) (mg := X.mg)
  refine .mk' ⟨fun pins s σ H Q I q => (pe_slice sl h1.1 (snd_part g h2) (snd_part g h3)).run pins s σ H Q I ?_⟩ fun _ => rfl
  obtain ⟨W, S, en, rfl, R, rr, q⟩ := q
  rw [evE] at q
  refine tE_of R rr (q.bind.mono fun x S1 W1 x1 R1 q1 v hv rr1 _ => ?_)
  refine ⟨W1, S1, en, rfl, R1, rr1, q1.bind.mono fun y S2 W2 x2 R2 q2 => ?_⟩
  refine ⟨W2, S2, en, rfl, R2, rr1.ext x2 R1.sub, q2.bind.mono fun z S3 W3 x3 R3 q3 => ?_⟩
  obtain ⟨d, e, q⟩ := q3.lift
  exact ⟨W3, S3, _, d, rfl, R3, view_at R3 (RepB.ext (x2.trans x3) R1.sub hv), e, then_of q⟩
end
end
end Ly
/-! Ly: methods of built-in types. -/
namespace Ly
open PySem PySem.Spec PyProof.Rows L2 PySem.SeqAt

/-- o.m(..), the receiver's type told when it is there -/
def tMe (X : Cx) (name : Str) (to : TE) (t : TA) : TE := fun σ H Q => to σ H fun x H1 => ∃ (T id : String) (r : V → List V → Hp → VK → Prop), PlainAttrs T ∧ Slot T name id ∧ typeOf (.builtin id) = pure (.type "method_descriptor") ∧ MtR X id r ∧ tyV X.K T x H1 ∧
  t σ H1 fun xs H2 => r x xs H2 Q
section
variable {X : Cx}
theorem base_plain {o : Expr} {name : Str} {env : PySem.Env} (h : notCall o = true) : attributeBase o name env (eval o env) = eval o env := by
  cases o <;> first | rfl | cases h
theorem few_plain {pos : Pos} {env : PySem.Env} {es : List Expr} (ns : ∀ e ∈ es, noStar e = true) (hl : es.length < 20) :
    ((backTo pos (starEach es env)).all (fun x => !x.1) && (backToKw pos (keywordEach [] env)).all (fun x => x.1.isSome) && decide (es.length + ([] : List Keyword).length + (if ([] : List Keyword).isEmpty then 0 else 1) < 30)) = true := by
  have h1 : (backTo pos (starEach es env)).all (fun x => !x.1) = true := by
    have h := star_any (pos := pos) (env := env) ns
    rw [List.all_eq_true]
    intro x hx
    rw [List.any_eq_false] at h
    have := h x hx
    simpa using this
  rw [h1]
  have h2 : (backToKw pos (keywordEach [] env)).all (fun x => x.1.isSome) = true := rfl
  rw [h2]
  simp
  omega
theorem pe_me {o e : Expr} {es : List Expr} {name : Str} {apos cpos : Pos} {to : TE} {t : TA} (ho : PE X o to) (ha : PA X (e :: es) t) (hb : notCall o = true) (hl : oneLine apos cpos = true) (ns : ∀ y ∈ e :: es, noStar y = true) (hn : (e :: es).length < 20) :
    PE X (.Call (.Attribute o name apos) (e :: es) [] cpos) (tMe X name to t) := by
  refine ⟨fun pins s σ H Q I h => ?_⟩
  refine wpAny_Call_method_late (base_plain hb) (few_plain ns hn) hl rfl (thn (ho.run pins s σ H _ I h) fun v s1 ⟨x, H1, I1, r1, q⟩ => ?_)
  obtain ⟨T, id, r, pa, slot, hty, hm, ty, q1⟩ := q
  obtain ⟨h1, h2⟩ := tyV_is I1 r1 ty
  refine ⟨T, id, pa, slot, hty, h1, h2, ?_⟩
  have hA := ha.run cpos pins s1 σ H1 _ I1 q1
  have hs := star_cons (es := es) (env := X.env) (ns e List.mem_cons_self)
  have hp := star_any (pos := cpos) (env := X.env) fun y hy => ns y (List.mem_cons_of_mem e hy)
  rw [hs] at hA ⊢
  refine Calls.callWith_builtin (by show (false || (backTo cpos (starEach es X.env)).any (·.1)) = false; rw [hp] <;> rfl) (Calls.evalArgs_plain ?_)
  exact thn hA fun us s2 ⟨vs, H2, I2, r2, q2⟩ => hm pins s2 σ H2 x vs v us Q I2 r1 r2 q2

/-! ### index -/
theorem natIdx_spec (c : Nat) : ∀ (l : List Nat) (n j : Nat), natIdx c l n = some j → n ≤ j ∧ l[j - n]? = some c ∧ ∀ i, n ≤ i → i < j → l[i - n]? ≠ some c
  | [], _, _, h => by cases h
  | y :: ys, n, j, h => by
    unfold natIdx at h
    split at h
    · rename_i e
      cases h
      subst e
      exact ⟨Nat.le_refl _, by simp, fun i h1 h2 => absurd h2 (Nat.not_lt.mpr h1)⟩
    · rename_i e
      obtain ⟨h1, h2, h3⟩ := natIdx_spec c ys (n + 1) j h
      have e1 : j - n = (j - (n + 1)) + 1 := by omega
      refine ⟨by omega, by rw [e1, List.getElem?_cons_succ]; exact h2, fun i i1 i2 => ?_⟩
      by_cases hi : i = n
      · subst hi
        rw [Nat.sub_self]
        simpa using e
      · have e2 : i - n = (i - (n + 1)) + 1 := by omega
        rw [e2, List.getElem?_cons_succ]
        exact h3 i (by omega) i2
theorem occ_sign {x : Str} {c : Nat} {j : Nat} (h : natIdx c x.cps.toList 0 = some j) : ∃ r, Builtin.Str.occurrences x ⟨#[c]⟩ 0 x.length 1 = j :: r := by
  obtain ⟨_, h2, h3⟩ := natIdx_spec c _ 0 j h
  have one : ∀ i, StrLaws.At x ⟨#[c]⟩ x.length i ↔ x.cps.toList[i]? = some c := fun i => StrLaws.subAt_one x c i
  rcases StrLaws.occ_head x ⟨#[c]⟩ 1 (Nat.le_refl _) with ⟨_, hn⟩ | ⟨i, r, e, ha, hn⟩
  · exact absurd ((one j).mpr (by simpa using h2)) (hn j)
  · have ij : i = j := by
      rcases Nat.lt_trichotomy i j with z | z | z
      · exact absurd ((one i).mp ha) (by simpa using h3 i (Nat.zero_le _) z)
      · exact z
      · exact absurd ((one j).mpr (by simpa using h2)) (hn j z)
    subst ij
    exact ⟨r, e⟩
theorem mt_signIx : MtR X "str.index" (fun x xs H Q => ∃ (a : Str) (c j : Nat), x = .str a ∧ xs = [.str ⟨#[c]⟩] ∧ natIdx c a.cps.toList 0 = some j ∧ Q (.int j) H) := by
  intro pins s σ H x xs v us Q I rx rs h
  obtain ⟨a, c, j, rfl, rfl, e, q⟩ := h
  obtain ⟨t, rfl⟩ := rx
  obtain ⟨u, rfl, t2, rfl⟩ := vals1 rs
  obtain ⟨r, o⟩ := occ_sign e
  exact PySem.SC.index o ⟨.int (j : Nat), H, I.tok _, ⟨_, rfl⟩, q⟩
end
section
variable {X : Cx} {mg : Str → Option Value} {pins : List (Addr × Obj)} {σ : L2.St} {s : Shared} {W : Wd}
theorem idxOf_spec (x : D) : ∀ (l : List D) (n j : Nat), idxOf x l n = some j → n ≤ j ∧ (∃ z, l[j - n]? = some z ∧ D.eqv z x = true) ∧ ∀ i z, n ≤ i → i < j → l[i - n]? = some z → D.eqv z x = false
  | [], _, _, h => by cases h
  | y :: ys, n, j, h => by
    unfold idxOf at h
    split at h
    · rename_i e
      cases h
      exact ⟨Nat.le_refl _, ⟨y, by simp, e⟩, fun i z h1 h2 => absurd h2 (Nat.not_lt.mpr h1)⟩
    · rename_i e
      obtain ⟨h1, ⟨z, h2, h2'⟩, h3⟩ := idxOf_spec x ys (n + 1) j h
      have e1 : j - n = (j - (n + 1)) + 1 := by omega
      refine ⟨by omega, ⟨z, by rw [e1, List.getElem?_cons_succ]; exact h2, h2'⟩, fun i z i1 i2 e3 => ?_⟩
      by_cases hi : i = n
      · subst hi
        rw [Nat.sub_self] at e3
        have : y = z := by simpa using e3
        subst this
        simpa using e
      · have e2 : i - n = (i - (n + 1)) + 1 := by omega
        rw [e2, List.getElem?_cons_succ] at e3
        exact h3 i z (by omega) i2 e3
end
section
variable {CXx : CXT} {G : Glob} {P : Prog} {k : Nat} {N : List Str} {E : XK} {b : Bl} {X : Cx} {own : List Nat} {ob : Bool}
theorem one_sign {x : Str} (h : x.length = 1) : x = ⟨#[x.cps.getD 0 0]⟩ := by
  obtain ⟨⟨l⟩⟩ := x
  have h : l.length = 1 := h
  match l, h with
  | [c], _ => rfl
theorem snd_me (g : Good CXx G P k N E b X) {o e : Expr} {m : Str} {apos cpos : Pos} {a c : Ex} {i : Me} (hm : meOf m = some i) (hb : notCall o = true) (hl : oneLine apos cpos = true) (ns : noStar e = true) (h1 : Snd own P k E X true o a) (h2 : Snd own P k E X false e c) :
    Snd own P k E X ob (.Call (.Attribute o m apos) [e] [] cpos) (.me i a [c]) := by
  have pa : PA X [e] (tCons (tE X.K X.mg E own (callP P k) false c) tNil) := pa_cons h2.1 pa_nil (star_cons ns)
  refine .mk' (pe_imp (pe_me h1.1 pa hb hl (fun y hy => by rw [List.mem_singleton.mp hy]; exact ns) (by show 1 < 20; omega)) fun σ H Q q => ?_) fun _ => rfl
  obtain ⟨W, S, en, rfl, R, rr, q⟩ := q
  rw [evE] at q
  refine tE_of R rr (q.bind.mono fun x S1 W1 x1 R1 q1 v hv rr1 _ => ?_)
  unfold meOf at hm
  split at hm
  · rename_i em
    cases hm
    subst em
    cases x <;> first | exact (show False from q1).elim | skip
    · rename_i z
      obtain rfl := hv.b.str_inv
      rw [if_pos (show meOk Me.index (view S1 (.str z)) = true from rfl)] at q1
      refine ⟨"str", "str.index", _, PySem.F.plainAttrs_str, PySem.F.slot_str_index, PySem.F.type_str_index, mt_signIx, rfl, ?_⟩
      have q1 := q1.bind
      rw [evEs] at q1
      refine tE_of R1 rr1 (q1.bind.mono fun y S2 W2 x2 R2 q2 u hu rr2 _ => ?_)
      rw [evEs] at q2
      obtain ⟨d, e, q3⟩ := Out.lift (q2 W2 (Ext.refl W2) R2)
      have e : meth .index (.str z) [y] = some d := e
      show ∃ (a : Str) (c j : Nat), _
      cases y <;> first | (cases e; done) | skip
      rename_i w _
      obtain rfl := hu.b.str_inv
      simp only [meth] at e
      split at e
      · rename_i hw
        obtain ⟨j, e1, rfl⟩ := map_some e
        have hw : w.length = 1 := by simpa using (Bool.and_eq_true_iff.mp hw).1
        exact ⟨z, w.cps.getD 0 0, j, rfl, by rw [← one_sign hw], e1, q3 W2 (Ext.refl W2) R2 _ (RepM.of (.int _))⟩
      · cases e
    · rename_i n
      exfalso
      have : meOk Me.index (view S1 (.ref n)) = false := by
        unfold view
        repeat (first | rfl | split)
      rw [this] at q1
      exact q1
  · cases hm
end
end Ly
/-! Ly: what loops and comprehensions walk. -/
namespace Ly
open PySem PySem.Spec PyProof.Rows L2 PySem.SeqAt

/-- what goes on, but for the places of Z -/
structure ExtZ (Z : Addr → Prop) (W W' : Wd) : Prop where
  keep : ∀ a o, W.H a = some o → a ∉ W.ρ → ¬ Z a → W'.H a = some o
  pre : W.ρ <+: W'.ρ
  fsub : ∀ a, W.F a → W'.F a
  fnew : ∀ a, W'.F a → W.F a ∨ W.H a = none
  dom : ∀ a, W.H a ≠ none → W'.H a ≠ none
  rnew : ∀ a, a ∈ W'.ρ → a ∈ W.ρ ∨ W.H a = none
section
variable {K : PySem.W.Frag} {mg : Str → Option Value} {Z : Addr → Prop} {W W' W'' : Wd} {S S' : Sto} {d : D} {v : V} {ds : List D} {vs : List V} {a : Addr}
theorem Ext.z (x : Ext W W') : ExtZ Z W W' := ⟨fun a o h n _ => x.keep a o h n, x.pre, x.fsub, x.fnew, x.dom, x.rnew⟩
theorem ExtZ.toExt (x : ExtZ Z W W') (h : ∀ a, ¬ Z a) : Ext W W' := ⟨fun a o q n => x.keep a o q n (h a), x.pre, x.fsub, x.fnew, x.dom, x.rnew⟩
theorem ExtZ.trans (x : ExtZ Z W W') (y : ExtZ Z W' W'') : ExtZ Z W W'' := by
  refine ⟨fun a o h n z => y.keep a o (x.keep a o h n z) (fun hm => ?_) z, x.pre.trans y.pre, fun a h => y.fsub a (x.fsub a h), fun a h => ?_, fun a h => y.dom a (x.dom a h), fun a h => ?_⟩
  · rcases x.rnew a hm with q | q
    · exact n q
    · rw [h] at q; cases q
  · rcases y.fnew a h with z | z
    · exact x.fnew a z
    · refine .inr ?_
      cases q : W.H a with
      | none => rfl
      | some o => exact absurd z (x.dom a (by rw [q]; simp))
  · rcases y.rnew a h with z | z
    · exact x.rnew a z
    · refine .inr ?_
      cases q : W.H a with
      | none => rfl
      | some o => exact absurd z (x.dom a (by rw [q]; simp))
/-- the places of Z: of those that may change, or new -/
def ZOk (Z : Addr → Prop) (W : Wd) : Prop := ∀ a, Z a → W.F a ∨ W.H a = none
theorem ExtZ.rd {u : HO} (x : ExtZ Z W W') (z : ZOk Z W) (hs : ∀ a ∈ W.ρ, W.F a) (h : Rd W.H a u ∧ ¬ W.F a) : Rd W'.H a u ∧ ¬ W'.F a := by
  obtain ⟨h, n⟩ := h
  have nr : a ∉ W.ρ := fun z => n (hs a z)
  have nz : ¬ Z a := fun q => by
    rcases z a q with q | q
    · exact n q
    · rcases h with h | ⟨o, h⟩ <;> (rw [h] at q; cases q)
  refine ⟨?_, fun z => ?_⟩
  · rcases h with h | ⟨o, h⟩
    · exact .inl (x.keep _ _ h nr nz)
    · exact .inr ⟨o, x.keep _ _ h nr nz⟩
  · rcases x.fnew a z with z | z
    · exact n z
    · rcases h with h | ⟨o, h⟩ <;> (rw [h] at z; cases z)
theorem ExtZ.tat (x : ExtZ Z W W') (z : ZOk Z W) (hs : ∀ a ∈ W.ρ, W.F a) (h : TAt K W a vs) : TAt K W' a vs := h.elim (fun h => .inl (x.rd z hs h)) .inr
theorem ExtZ.lat (x : ExtZ Z W W') (z : ZOk Z W) (hs : ∀ a ∈ W.ρ, W.F a) (h : LAt K W a vs) : LAt K W' a vs := h.elim (fun h => .inl (x.rd z hs h)) .inr
theorem ExtZ.ix {n : Nat} (x : ExtZ Z W W') (h : W.ρ[n]? = some a) : W'.ρ[n]? = some a := by
  obtain ⟨t, e⟩ := x.pre
  rw [← e, List.getElem?_append_left (List.getElem?_eq_some_iff.mp h).1]
  exact h
mutual
theorem RepD.extZ (x : ExtZ Z W W') (z : ZOk Z W) (hs : ∀ a ∈ W.ρ, W.F a) : ∀ {d : D} {v : V}, RepD K mg W d v → RepD K mg W' d v
  | _, _, .non => .non
  | _, _, .bl b => .bl b
  | _, _, .int i => .int i
  | _, _, .str s => .str s
  | _, _, .ty n => .ty n
  | _, _, .tup h r => .tup (x.tat z hs h) (RepDs.extZ x z hs r)
  | _, _, .lst h r => .lst (x.lat z hs h) (RepDs.extZ x z hs r)
  | _, _, .ref h => .ref (x.ix h)
  | _, _, .fn h => .fn h
theorem RepDs.extZ (x : ExtZ Z W W') (z : ZOk Z W) (hs : ∀ a ∈ W.ρ, W.F a) : ∀ {d : List D} {v : List V}, RepDs K mg W d v → RepDs K mg W' d v
  | _, _, .nil => .nil
  | _, _, .cons h r => .cons (RepD.extZ x z hs h) (RepDs.extZ x z hs r)
end
/-- fewer places that may change -/
def Wd.less (W : Wd) (D : Addr) : Wd := ⟨W.ρ, fun a => W.F a ∧ a ≠ D, W.H⟩
mutual
theorem RepD.less {D : Addr} : ∀ {d : Ly.D} {v : V}, RepD K mg W d v → RepD K mg (W.less D) d v
  | _, _, .non => .non
  | _, _, .bl b => .bl b
  | _, _, .int i => .int i
  | _, _, .str s => .str s
  | _, _, .ty n => .ty n
  | _, _, .tup h r => .tup (h.elim (fun h => .inl ⟨h.1, fun q => h.2 q.1⟩) .inr) (RepDs.less r)
  | _, _, .lst h r => .lst (h.elim (fun h => .inl ⟨h.1, fun q => h.2 q.1⟩) .inr) (RepDs.less r)
  | _, _, .ref h => .ref h
  | _, _, .fn h => .fn h
theorem RepDs.less {D : Addr} : ∀ {d : List Ly.D} {v : List V}, RepDs K mg W d v → RepDs K mg (W.less D) d v
  | _, _, .nil => .nil
  | _, _, .cons h r => .cons (RepD.less h) (RepDs.less r)
end
theorem RepO.less {D : Addr} {mo : MO} (h : RepO K mg W a mo) : RepO K mg (W.less D) a mo := by
  cases mo with
  | lst xs => obtain ⟨vs, h1, h2⟩ := h; exact ⟨vs, h1, h2.less⟩
  | dct kvs => exact h
  | ins c fs => exact h
  | dead => exact h
theorem Rep.less {D : Addr} (R : Rep K mg W S) (h : D ∉ W.ρ) : Rep K mg (W.less D) S where
  len := R.len
  nd := R.nd
  sub := fun a ha => ⟨R.sub a ha, fun e => h (e ▸ ha)⟩
  dom := fun a ha => R.dom a ha.1
  obj := fun n mo a h1 h2 => (R.obj n mo a h1 h2).less
/-- more places that may change: a new list that is being made -/
def Wd.more (W : Wd) (D : Addr) (o : HO) : Wd := ⟨W.ρ, fun a => W.F a ∨ a = D, upd W.H D o⟩
theorem Ext.more {D : Addr} {o : HO} (hn : W.H D = none) : Ext W (W.more D o) where
  keep := fun a u h _ => by
    show upd W.H D o a = some u
    rw [upd_ne (fun e => by rw [e, hn] at h; cases h)]
    exact h
  pre := List.prefix_refl _
  fsub := fun a h => .inl h
  fnew := fun a h => h.elim .inl fun e => .inr (e ▸ hn)
  dom := fun a h => by
    show upd W.H D o a ≠ none
    by_cases e : a = D
    · subst e; rw [upd_same]; simp
    · rw [upd_ne e]; exact h
  rnew := fun a h => .inl h
theorem Rep.more {D : Addr} {o : HO} (R : Rep K mg W S) (hn : W.H D = none) : Rep K mg (W.more D o) S where
  len := R.len
  nd := R.nd
  sub := fun a ha => .inl (R.sub a ha)
  dom := fun a ha => by
    show upd W.H D o a ≠ none
    rcases ha with ha | rfl
    · by_cases e : a = D
      · subst e; rw [upd_same]; simp
      · rw [upd_ne e]; exact R.dom a ha
    · rw [upd_same]; simp
  obj := fun n mo a h1 h2 => RepO.ext (Ext.more hn) R.sub (fun u h => by
    show upd W.H D o a = some u
    rw [upd_ne (fun e => by rw [e, hn] at h; cases h)]
    exact h) (R.obj n mo a h1 h2)
/-- a list that the def alone holds, with another content -/
def Wd.at (W : Wd) (D : Addr) (o : HO) : Wd := ⟨W.ρ, W.F, upd W.H D o⟩
theorem ExtZ.at {D : Addr} {o : HO} (z : Z D) (hn : W.H D ≠ none) : ExtZ Z W (W.at D o) where
  keep := fun a u h _ n => by
    show upd W.H D o a = some u
    rw [upd_ne (fun e => n (by rw [e]; exact z))]
    exact h
  pre := List.prefix_refl _
  fsub := fun a h => h
  fnew := fun a h => .inl h
  dom := fun a h => by
    show upd W.H D o a ≠ none
    by_cases e : a = D
    · subst e; rw [upd_same]; simp
    · rw [upd_ne e]; exact h
  rnew := fun a h => .inl h
theorem Rep.at {D : Addr} {o : HO} (R : Rep K mg W S) (hF : W.F D) (hρ : D ∉ W.ρ) : Rep K mg (W.at D o) S where
  len := R.len
  nd := R.nd
  sub := R.sub
  dom := fun a ha => by
    show upd W.H D o a ≠ none
    by_cases e : a = D
    · subst e; rw [upd_same]; simp
    · rw [upd_ne e]; exact R.dom a ha
  obj := fun n mo a h1 h2 => by
    have hne : a ≠ D := fun e => hρ (e ▸ List.mem_of_getElem? h2)
    have x : ExtZ (fun a => a = D) W (W.at D o) := ExtZ.at rfl (R.dom D hF)
    have z : ZOk (fun a => a = D) W := fun a e => .inl (e ▸ hF)
    cases mo with
    | lst xs =>
      obtain ⟨vs, q1, q2⟩ := R.obj n _ a h1 h2
      exact ⟨vs, by show upd W.H D o a = _; rw [upd_ne hne]; exact q1, q2.extZ x z R.sub⟩
    | dct kvs => exact R.obj n _ a h1 h2
    | ins c fs => exact R.obj n _ a h1 h2
    | dead => trivial
end

/-! ### what is walked -/
section
variable (K : PySem.W.Frag) (mg : Str → Option Value)
/-- a list, a tuple, as it stands at each turn -/
def SrcL (Z : Addr → Prop) (W : Wd) (w : List (Nat × Option MO)) (a : Addr) (xs : List D) : Prop := ∀ W' S', ExtZ Z W W' → Rep K mg W' S' → still S' w = true → ∃ vs, SqL K W'.H a vs ∧ RepDs K mg W' xs vs
def SrcT (Z : Addr → Prop) (W : Wd) (w : List (Nat × Option MO)) (a : Addr) (xs : List D) : Prop := ∀ W' S', ExtZ Z W W' → Rep K mg W' S' → still S' w = true → ∃ vs, SqT K W'.H a vs ∧ RepDs K mg W' xs vs
/-- the walk gives xs, one by one -/
structure Wk (Z : Addr → Prop) (W : Wd) (w : List (Nat × Option MO)) (xs : List D) (J : It) : Prop where
  go : ∀ i W' S', i < xs.length → ExtZ Z W W' → Rep K mg W' S' → still S' w = true → J.go i W'.H
  stop : ∀ W' S', ExtZ Z W W' → Rep K mg W' S' → still S' w = true → J.stop xs.length W'.H
  yld : ∀ i W' S' x H', i < xs.length → ExtZ Z W W' → Rep K mg W' S' → still S' w = true → J.yld i W'.H x H' → ∃ W'' d, W''.H = H' ∧ Ext W' W'' ∧ Rep K mg W'' S' ∧ xs[i]? = some d ∧ RepD K mg W'' d x
end
section
variable {K : PySem.W.Frag} {mg : Str → Option Value} {Z : Addr → Prop} {W : Wd} {w : List (Nat × Option MO)} {a b : Addr} {xs ys : List D}
theorem get_both {W : Wd} {xs : List D} {vs : List V} {i : Nat} (r : RepDs K mg W xs vs) (h : i < xs.length) : ∃ d v, xs[i]? = some d ∧ vs[i]? = some v ∧ RepD K mg W d v := by
  have e : xs[i]? = some xs[i] := List.getElem?_eq_getElem h
  obtain ⟨v, h1, h2⟩ := r.get e
  exact ⟨_, v, e, h1, h2⟩
theorem wk_list (s : SrcL K mg Z W w a xs) : Wk K mg Z W w xs (Itl K a) where
  go := fun i W' S' hi x R st => by
    obtain ⟨vs, q, r⟩ := s W' S' x R st
    obtain ⟨d, v, h1, h2, _⟩ := get_both r hi
    exact ⟨vs, v, q, h2⟩
  stop := fun W' S' x R st => by
    obtain ⟨vs, q, r⟩ := s W' S' x R st
    exact ⟨vs, q, by rw [r.length]; exact Nat.le_refl _⟩
  yld := fun i W' S' x H' hi e R st y => by
    obtain ⟨vs, q, r⟩ := s W' S' e R st
    obtain ⟨d, v, h1, h2, h3⟩ := get_both r hi
    obtain ⟨rfl, y⟩ := y
    have := y vs q
    rw [h2] at this; cases this
    exact ⟨W', d, rfl, Ext.refl W', R, h1, h3⟩
theorem wk_tup (s : SrcT K mg Z W w a xs) : Wk K mg Z W w xs (Itt K a) where
  go := fun i W' S' hi x R st => by
    obtain ⟨vs, q, r⟩ := s W' S' x R st
    obtain ⟨d, v, h1, h2, _⟩ := get_both r hi
    exact ⟨vs, v, q, h2⟩
  stop := fun W' S' x R st => by
    obtain ⟨vs, q, r⟩ := s W' S' x R st
    exact ⟨vs, q, by rw [r.length]; exact Nat.le_refl _⟩
  yld := fun i W' S' x H' hi e R st y => by
    obtain ⟨vs, q, r⟩ := s W' S' e R st
    obtain ⟨d, v, h1, h2, h3⟩ := get_both r hi
    obtain ⟨rfl, y⟩ := y
    have := y vs q
    rw [h2] at this; cases this
    exact ⟨W', d, rfl, Ext.refl W', R, h1, h3⟩
theorem wk_str {s : Str} : Wk K mg Z W w (s.cps.toList.map fun c => D.str ⟨#[c]⟩) (Its s) where
  go := fun i W' S' hi x R st => by
    have : i < s.cps.size := by simpa using hi
    exact this
  stop := fun W' S' x R st => by show s.cps.size ≤ _; simp
  yld := fun i W' S' x H' hi e R st y => by
    obtain ⟨rfl, c, h1, rfl⟩ := y
    refine ⟨W', .str ⟨#[c]⟩, rfl, Ext.refl W', R, ?_, .str _⟩
    simp [h1]
theorem wk_range {lo hi : Int} : Wk K mg Z W w (rangeD lo hi) (Itr lo (hi - lo).toNat) where
  go := fun i W' S' h x R st => by
    have : i < (hi - lo).toNat := by simpa [rangeD] using h
    exact this
  stop := fun W' S' x R st => by show _ ≤ _; simp [rangeD]
  yld := fun i W' S' x H' h e R st y => by
    obtain ⟨rfl, rfl⟩ := y
    have h : i < (hi - lo).toNat := by simpa [rangeD] using h
    refine ⟨W', .int (lo + i), rfl, Ext.refl W', R, ?_, .int _⟩
    simp [rangeD, h]
theorem zipD_length : ∀ (xs ys : List D), (zipD xs ys).length = min xs.length ys.length
  | [], _ => by simp [zipD]
  | _ :: _, [] => by simp [zipD]
  | x :: xs, y :: ys => by rw [zipD, List.length_cons, zipD_length xs ys, List.length_cons, List.length_cons]; omega
theorem zipD_get : ∀ (xs ys : List D) (i : Nat) (x y : D), xs[i]? = some x → ys[i]? = some y → (zipD xs ys)[i]? = some (.tup [x, y])
  | [], _, _, _, _, h, _ => by simp at h
  | _ :: _, [], _, _, _, _, h => by simp at h
  | x :: xs, y :: ys, 0, _, _, h1, h2 => by simp at h1 h2; subst h1 h2; rfl
  | x :: xs, y :: ys, i + 1, _, _, h1, h2 => zipD_get xs ys i _ _ (by simpa using h1) (by simpa using h2)
theorem enumD_length : ∀ (n : Nat) (xs : List D), (enumD n xs).length = xs.length
  | _, [] => rfl
  | n, x :: xs => by rw [enumD, List.length_cons, enumD_length, List.length_cons]
theorem enumD_get : ∀ (n : Nat) (xs : List D) (i : Nat) (x : D), xs[i]? = some x → (enumD n xs)[i]? = some (.tup [.int ((n + i : Nat) : Int), x])
  | _, [], _, _, h => by simp at h
  | n, x :: xs, 0, _, h => by simp at h; subst h; rfl
  | n, x :: xs, i + 1, _, h => by
    have e : n + (i + 1) = (n + 1) + i := by omega
    rw [e]
    exact enumD_get (n + 1) xs i _ (by simpa using h)
theorem pair_new {W' : Wd} {S' : Sto} {T : Addr} {x y : V} {d e : D} (R : Rep K mg W' S') (hn : W'.H T = none) (h1 : RepD K mg W' d x) (h2 : RepD K mg W' e y) :
    ∃ W'', W''.H = upd W'.H T (.tup [x, y]) ∧ Ext W' W'' ∧ Rep K mg W'' S' ∧ RepD K mg W'' (.tup [d, e]) (.ref T) :=
  ⟨W'.new T (.tup [x, y]), rfl, Ext.new hn, R.new hn, new_tup R hn (.cons h1 (.cons h2 .nil))⟩
theorem wk_enum (s : SrcL K mg Z W w a xs) : Wk K mg Z W w (enumD 0 xs) (Ite K a) where
  go := fun i W' S' hi x R st => by
    rw [enumD_length] at hi
    obtain ⟨vs, q, r⟩ := s W' S' x R st
    obtain ⟨d, v, h1, h2, _⟩ := get_both r hi
    exact ⟨vs, v, q, h2⟩
  stop := fun W' S' x R st => by
    rw [enumD_length]
    obtain ⟨vs, q, r⟩ := s W' S' x R st
    exact ⟨vs, q, by rw [r.length]; exact Nat.le_refl _⟩
  yld := fun i W' S' x H' hi e R st y => by
    rw [enumD_length] at hi
    obtain ⟨vs, q, r⟩ := s W' S' e R st
    obtain ⟨d, v, h1, h2, h3⟩ := get_both r hi
    obtain ⟨T, z, rfl, hn, rfl, y⟩ := y
    have := y vs q
    rw [h2] at this; cases this
    obtain ⟨W'', k1, k2, k3, k4⟩ := pair_new R hn (.int (i : Nat)) h3
    have g := enumD_get 0 xs i d h1
    rw [Nat.zero_add] at g
    exact ⟨W'', _, k1, k2, k3, g, k4⟩
theorem wk_zip (s : SrcL K mg Z W w a xs) (t : SrcL K mg Z W w b ys) : Wk K mg Z W w (zipD xs ys) (Itz K a b) where
  go := fun i W' S' hi x R st => by
    rw [zipD_length] at hi
    obtain ⟨vs, q, r⟩ := s W' S' x R st
    obtain ⟨us, q', r'⟩ := t W' S' x R st
    obtain ⟨d, v, h1, h2, _⟩ := get_both r (i := i) (by omega)
    obtain ⟨d', v', h1', h2', _⟩ := get_both r' (i := i) (by omega)
    exact ⟨vs, us, v, v', q, q', h2, h2'⟩
  stop := fun W' S' x R st => by
    rw [zipD_length]
    obtain ⟨vs, q, r⟩ := s W' S' x R st
    obtain ⟨us, q', r'⟩ := t W' S' x R st
    exact ⟨vs, us, q, q', by rw [r.length, r'.length]; omega⟩
  yld := fun i W' S' x H' hi e R st y => by
    rw [zipD_length] at hi
    obtain ⟨vs, q, r⟩ := s W' S' e R st
    obtain ⟨us, q', r'⟩ := t W' S' e R st
    obtain ⟨d, v, h1, h2, h3⟩ := get_both r (i := i) (by omega)
    obtain ⟨d', v', h1', h2', h3'⟩ := get_both r' (i := i) (by omega)
    obtain ⟨T, z, z', rfl, hn, rfl, y, y'⟩ := y
    have := y vs q
    rw [h2] at this; cases this
    have := y' us q'
    rw [h2'] at this; cases this
    obtain ⟨W'', k1, k2, k3, k4⟩ := pair_new R hn h3 h3'
    exact ⟨W'', _, k1, k2, k3, zipD_get xs ys i d d' h1 h1', k4⟩
theorem wk_zipT (s : SrcT K mg Z W w a xs) (t : SrcT K mg Z W w b ys) : Wk K mg Z W w (zipD xs ys) (RZ.ItzT K a b) where
  go := fun i W' S' hi x R st => by
    rw [zipD_length] at hi
    obtain ⟨vs, q, r⟩ := s W' S' x R st
    obtain ⟨us, q', r'⟩ := t W' S' x R st
    obtain ⟨d, v, h1, h2, _⟩ := get_both r (i := i) (by omega)
    obtain ⟨d', v', h1', h2', _⟩ := get_both r' (i := i) (by omega)
    exact ⟨vs, us, v, v', q, q', h2, h2'⟩
  stop := fun W' S' x R st => by
    rw [zipD_length]
    obtain ⟨vs, q, r⟩ := s W' S' x R st
    obtain ⟨us, q', r'⟩ := t W' S' x R st
    exact ⟨vs, us, q, q', by rw [r.length, r'.length]; omega⟩
  yld := fun i W' S' x H' hi e R st y => by
    rw [zipD_length] at hi
    obtain ⟨vs, q, r⟩ := s W' S' e R st
    obtain ⟨us, q', r'⟩ := t W' S' e R st
    obtain ⟨d, v, h1, h2, h3⟩ := get_both r (i := i) (by omega)
    obtain ⟨d', v', h1', h2', h3'⟩ := get_both r' (i := i) (by omega)
    obtain ⟨T, z, z', rfl, hn, rfl, y, y'⟩ := y
    have := y vs q
    rw [h2] at this; cases this
    have := y' us q'
    rw [h2'] at this; cases this
    obtain ⟨W'', k1, k2, k3, k4⟩ := pair_new R hn h3 h3'
    exact ⟨W'', _, k1, k2, k3, zipD_get xs ys i d d' h1 h1', k4⟩

/-! ### from a value -/
/-- Z leaves what may be walked: b: a list of the def's own may be walked, Z is new -/
def ZFor (b : Bool) (Z : Addr → Prop) (W : Wd) : Prop := if b = true then ∀ a, Z a → W.H a = none else ∀ a, Z a → W.F a
theorem ZFor.ok {b : Bool} (z : ZFor b Z W) : ZOk Z W := fun a h => by
  unfold ZFor at z
  split at z
  · exact .inr (z a h)
  · exact .inl (z a h)
theorem still_at {S S' : Sto} {n : Nat} {r : List D} {w : List (Nat × Option MO)} (h : still S' w = true) (hm : (n, S[n]?) ∈ w) : S'[n]? = S[n]? := by
  unfold still at h
  rw [List.all_eq_true] at h
  simpa using h _ hm
theorem src_lst {bb : Bool} {S : Sto} {d : D} {v : V} (z : ZFor bb Z W) (R : Rep K mg W S) (h : RepM bb K mg W d v) (hw : ∀ n, d = .ref n → (n, S[n]?) ∈ w) (e : view S d = .lst xs) : ∃ a, v = .ref a ∧ (∃ vs, SqL K W.H a vs) ∧ SrcL K mg Z W w a xs := by
  have dd : RepD K mg W d v → ∃ a, v = .ref a ∧ (∃ vs, SqL K W.H a vs) ∧ SrcL K mg Z W w a xs := by
    clear h
    intro k
    cases k with
    | lst l r =>
      cases (show D.lst _ = D.lst _ from e)
      exact ⟨_, rfl, ⟨_, l.sq⟩, fun W' S' x R' st => ⟨_, (x.lat z.ok R.sub l).sq, r.extZ x z.ok R.sub⟩⟩
    | ref l =>
      rename_i n a
      have e : (match S[n]? with | some (.lst xs) => D.lst xs | some (.dct kvs) => .dct kvs | _ => .ref n) = .lst xs := e
      split at e
      · rename_i ys q
        cases e
        obtain ⟨vs, h1, h2⟩ := R.obj n _ a q l
        refine ⟨a, rfl, ⟨vs, .inl (.inl h1)⟩, fun W' S' x R' st => ?_⟩
        have q' := still_at (r := []) st (hw n rfl)
        rw [q] at q'
        obtain ⟨us, k1, k2⟩ := R'.obj n _ a q' (x.ix l)
        exact ⟨us, .inl (.inl k1), k2⟩
      · cases e
      · cases e
    | _ => cases e
  cases bb with
  | true =>
    have k : RepB K mg W d v := h
    clear h
    cases k with
    | of k => exact dd k
    | own l n r =>
      cases (show D.lst _ = D.lst _ from e)
      refine ⟨_, rfl, ⟨_, .inl (.inl l)⟩, fun W' S' x R' st => ⟨_, .inl (.inl (x.keep _ _ l n fun q => ?_)), r.extZ x z.ok R.sub⟩⟩
      have := (show ∀ a, Z a → W.H a = none from z) _ q
      rw [l] at this; cases this
  | false => exact dd h
theorem src_tup {bb : Bool} {S : Sto} {d : D} {v : V} (z : ZFor bb Z W) (R : Rep K mg W S) (h : RepM bb K mg W d v) (e : view S d = .tup xs) : ∃ a, v = .ref a ∧ (∃ vs, SqT K W.H a vs) ∧ SrcT K mg Z W w a xs := by
  have k := h.b
  clear h
  cases k with
  | own l n r => cases e
  | of k =>
    cases k with
    | tup l r =>
      cases (show D.tup _ = D.tup _ from e)
      exact ⟨_, rfl, ⟨_, l.sq⟩, fun W' S' x R' st => ⟨_, (x.tat z.ok R.sub l).sq, r.extZ x z.ok R.sub⟩⟩
    | ref l =>
      unfold view at e
      repeat' (first | (cases e; done) | split at e)
    | _ => cases e
end
end Ly
/-! Ly: iterators, targets. -/
namespace Ly
open PySem PySem.Spec PyProof.Rows L2 PySem.SeqAt

/-- what is walked, by the evaluator -/
def tI (K : PySem.W.Frag) (mg : Str → Option Value) (E : XK) (own : List Nat) (cf : CF) (b : Bool) (k : Ik) (irs : List Ex) : TI := fun σ H R => From K mg own σ H fun W S en => Out K mg E W (evEs cf irs en S) fun ds S' W' =>
  ∃ xs, walk S' k ds = some xs ∧ ∀ J, (∀ Z, ZFor b Z W' → Wk K mg Z W' (watch S' ds) xs J) → R J W'.H
theorem pi_imp {X : Cx} {tg iter : Expr} {t t' : TI} (h : PI X tg iter t) (i : ∀ σ H R, t' σ H R → t σ H R) : PI X tg iter t' := ⟨fun pins s σ H R I q => h.run pins s σ H R I (i σ H R q)⟩
/-- a list, a tuple or a text -/
def iAny (K : PySem.W.Frag) (te : TE) : TI := fun σ H R => te σ H fun v H1 => (∃ a, v = .ref a ∧ (∃ xs, SqL K H1 a xs) ∧ R (Itl K a) H1) ∨ (∃ a, v = .ref a ∧ (∃ xs, SqT K H1 a xs) ∧ R (Itt K a) H1) ∨ ∃ x, v = .str x ∧ R (Its x) H1
theorem pi_any {X : Cx} {tg e : Expr} {te : TE} (he : PE X e te) : PI X tg e (iAny X.K te) := by
  refine ⟨fun pins s σ H R I h => ?_⟩
  refine thn (he.run pins s σ H _ I h) fun v s1 ⟨y, H1, I1, r1, q⟩ => ?_
  rcases q with ⟨a, rfl, ⟨xs, hq⟩, q⟩ | ⟨a, rfl, ⟨xs, hq⟩, q⟩ | ⟨x, rfl, q⟩
  · cases r1
    obtain ⟨its, rv, p, hz⟩ := I1.list hq
    exact wpAny_pyIter_list p.isList (pi_one (tk := s1.toks) I1 _ (turn_list a _) ⟨_, Heap.get?_push_size _ rfl, rfl, rfl⟩ q)
  · cases r1
    obtain ⟨its, rv, p, hz⟩ := I1.tuple hq
    exact wpAny_pyIter_tuple (show s1.heap.IsTuple a its.toArray from p) (pi_one (tk := s1.toks) I1 _ (turn_tuple a _) ⟨_, Heap.get?_push_size _ rfl, rfl, rfl⟩ q)
  · obtain ⟨t, rfl⟩ := r1
    cases ha : x.cps.all (· < 128)
    · exact wpAny_pyIter_wide ha (pi_one (tk := s1.toks) I1 _ (turn_str _ x t "str_iterator" (.inr rfl)) ⟨_, Heap.get?_push_size _ rfl, rfl, rfl⟩ q)
    · exact wpAny_pyIter_ascii ha (pi_one (tk := s1.toks) I1 _ (turn_str _ x t "str_ascii_iterator" (.inl rfl)) ⟨_, Heap.get?_push_size _ rfl, rfl, rfl⟩ q)
section
variable {K : PySem.W.Frag} {mg : Str → Option Value} {W W' : Wd} {S : Sto} {d : D} {v : V} {b : Bool}
theorem watch_mem {n : Nat} : ∀ {ds : List D}, D.ref n ∈ ds → (n, S[n]?) ∈ watch S ds
  | [], h => by cases h
  | d :: ds, h => by
    rcases List.mem_cons.mp h with rfl | h
    · unfold watch
      exact List.mem_cons_self
    · have := watch_mem h
      cases d <;> first | exact this | exact List.mem_cons_of_mem _ this
theorem still_watch : ∀ ds : List D, still S (watch S ds) = true
  | [] => rfl
  | d :: ds => by
    have := still_watch ds
    cases d <;> first | exact this | skip
    unfold watch still
    rw [List.all_cons]
    simp only [decide_true, Bool.true_and]
    exact this
theorem view_str {s : Str} (h : view S d = .str s) : d = .str s := by
  cases d <;> first | exact h | skip
  unfold view at h
  repeat' (first | (cases h; done) | split at h)
theorem view_tup {s : List D} (h : view S d = .tup s) : d = .tup s := by
  cases d <;> first | exact h | skip
  unfold view at h
  repeat' (first | (cases h; done) | split at h)
theorem view_dct {kvs : List (D × D)} (R : Rep K mg W S) (h : RepM b K mg W d v) (e : view S d = .dct kvs) : False := by
  have := view_at R h.b
  rw [e] at this
  exact this
/-- no place -/
theorem zfor_none : ZFor b (fun _ => False) W := by
  unfold ZFor
  split
  · exact fun _ h => h.elim
  · exact fun _ h => h.elim
theorem zfor_nil {Z : Addr → Prop} : ZFor b (fun _ => False) W := zfor_none
theorem repMs_cons {ds : List D} {vs : List V} (h : RepMs b K mg W (d :: ds) vs) : ∃ v r, vs = v :: r ∧ RepM b K mg W d v ∧ RepMs b K mg W ds r := by
  cases b with
  | true =>
    have k : RepBs K mg W (d :: ds) vs := h
    clear h
    cases k with
    | cons l r => exact ⟨_, _, rfl, l, r⟩
  | false =>
    have k : RepDs K mg W (d :: ds) vs := h
    clear h
    cases k with
    | cons l r => exact ⟨_, _, rfl, l, r⟩
theorem repMs_nil {vs : List V} (h : RepMs b K mg W [] vs) : vs = [] := by
  cases b with
  | true => cases (show RepBs K mg W [] vs from h); rfl
  | false => cases (show RepDs K mg W [] vs from h); rfl
end
section
variable {CXx : CXT} {G : Glob} {P : Prog} {k : Nat} {N : List Str} {E : XK} {bl : Bl} {X : Cx} {own : List Nat} {ob : Bool}
theorem snd_it {tg e : Expr} {ir : Ex} (h : PE X e (tE X.K X.mg E own (callP P k) ob ir)) : PI X tg e (tI X.K X.mg E own (callP P k) ob .ex [ir]) := by
  refine pi_imp (pi_any h) fun σ H R q => ?_
  obtain ⟨W, S, en, rfl, Rp, rr, q⟩ := q
  rw [evEs] at q
  refine tE_of Rp rr (q.bind.mono fun d S1 W1 x1 R1 q1 v hv rr1 _ => ?_)
  rw [evEs] at q1
  obtain ⟨xs, hw, q⟩ := q1 W1 (Ext.refl W1) R1
  have hw : items (view S1 d) = some xs := hw
  unfold items at hw
  split at hw
  · rename_i xs' e
    cases hw
    obtain ⟨a, rfl, sq, _⟩ := src_tup (Z := fun _ => False) (w := watch S1 [d]) zfor_none R1 hv e
    refine .inr (.inl ⟨a, rfl, sq, q _ fun Z z => ?_⟩)
    obtain ⟨a', ea, _, s⟩ := src_tup (w := watch S1 [d]) z R1 hv e
    cases ea
    exact wk_tup s
  · rename_i xs' e
    cases hw
    have hm : ∀ n, d = .ref n → (n, S1[n]?) ∈ watch S1 [d] := fun n hn => watch_mem (by rw [hn]; exact List.mem_cons_self)
    obtain ⟨a, rfl, sq, _⟩ := src_lst (Z := fun _ => False) zfor_none R1 hv hm e
    refine .inl ⟨a, rfl, sq, q _ fun Z z => ?_⟩
    obtain ⟨a', ea, _, s⟩ := src_lst z R1 hv hm e
    cases ea
    exact wk_list s
  · rename_i s e
    split at hw
    · cases hw
      obtain rfl := view_str e
      obtain rfl := hv.b.str_inv
      exact .inr (.inr ⟨s, rfl, q _ fun Z z => wk_str⟩)
    · cases hw
  · rename_i kvs e
    exact (view_dct R1 hv e).elim
  · cases hw
theorem intOk_inv {i : Int} (h : intOk i = true) : -(2 ^ 62) ≤ i ∧ i < 2 ^ 62 := by
  unfold intOk at h
  simpa using h
theorem walk_range_inv {S : Sto} {ds xs : List D} (h : walk S .range ds = some xs) : rangeOf ds = some xs := by
  unfold walk at h
  obtain ⟨ys, h1, h2⟩ := bind_some h
  split at h2
  · cases h2; exact h1
  · cases h2
theorem Out.eq {α : Type} {K : PySem.W.Frag} {mg : Str → Option Value} {W : Wd} {r : Re α} {R : α → Sto → Wd → Prop} (h : Out K mg E W r R) : Out K mg E W r fun a S W' => r = .ok a S ∧ R a S W' := by
  cases r with
  | ok a S => exact fun W' x k => ⟨rfl, h W' x k⟩
  | exc c fs S => exact h
  | bad => exact h
theorem bind_ok {α β : Type} {r : Re α} {f : α → Sto → Re β} {b : β} {S : Sto} (h : r.bind f = .ok b S) : ∃ a S', r = .ok a S' ∧ f a S' = .ok b S := by
  cases r with
  | ok a S' => exact ⟨a, S', rfl, h⟩
  | exc c fs S' => cases h
  | bad => cases h
theorem evEs_len {cf : CF} {en : Env} : ∀ {es : List Ex} {S S' : Sto} {ds : List D}, evEs cf es en S = .ok ds S' → ds.length = es.length
  | [], S, S', ds, h => by rw [evEs] at h; cases h; rfl
  | e :: es, S, S', ds, h => by
    rw [evEs] at h
    obtain ⟨x, S1, h1, h⟩ := bind_ok h
    obtain ⟨xs, S2, h2, h⟩ := bind_ok h
    cases h
    rw [List.length_cons, List.length_cons, evEs_len h2]
theorem wk_rangeN {K : PySem.W.Frag} {mg : Str → Option Value} {Z : Addr → Prop} {W : Wd} {w : List (Nat × Option MO)} {i j : Int} : Wk K mg Z W w (rangeN i j) (Itc i (-1) (i - j).toNat) where
  go := fun n W' S' h x R st => by
    have : n < (i - j).toNat := by simpa [rangeN] using h
    exact this
  stop := fun W' S' x R st => by show _ ≤ _; simp [rangeN]
  yld := fun n W' S' x H' h e R st y => by
    obtain ⟨rfl, rfl⟩ := y
    have h : n < (i - j).toNat := by simpa [rangeN] using h
    refine ⟨W', .int (i + n * (-1)), rfl, Ext.refl W', R, ?_, .int _⟩
    simp [rangeN, h]
theorem snd_range1 (g : Good CXx G P k N E bl X) {tg a : Expr} {ia : Ex} {p pos : Pos} (hg : Ly.gl bl.sc ("range" : Str) = true) (hf : ("range" : Str) ∈ G.free) (ns : noStar a = true) (h : PA X [a] (tEs X.K X.mg E own (callP P k) false [ia])) :
    PI X tg (.Call (.Name "range" p) [a] [] pos) (tI X.K X.mg E own (callP P k) ob .range [ia]) := by
  refine pi_imp (pi_range1 (g.gl hg) (g.free _ hf) h (star_cons ns)) fun σ H R q => ?_
  obtain ⟨W, S, en, rfl, Rp, rr, q⟩ := q
  refine ⟨W, S, en, rfl, Rp, rr, q.eq.mono fun ds S1 W1 x1 R1 q1 vs hvs => ?_⟩
  obtain ⟨eq, xs, hw, q⟩ := q1
  have hl := evEs_len eq
  have hw := walk_range_inv hw
  unfold rangeOf at hw
  split at hw
  · rename_i j _
    split at hw
    · rename_i hj
      cases hw
      obtain ⟨v, r, rfl, hv, hr⟩ := repMs_cons hvs
      obtain rfl := repMs_nil hr
      obtain rfl := hv.b.int_inv
      obtain ⟨j1, j2⟩ := intOk_inv hj
      refine ⟨j, rfl, j1, j2, q _ fun Z z => ?_⟩
      have e : j.toNat = (j - 0).toNat := by rw [Int.sub_zero]
      rw [e]
      exact wk_range
    · cases hw
  · simp at hl
  · simp at hl
  · cases hw
theorem snd_range2 (g : Good CXx G P k N E bl X) {tg a c : Expr} {ia ic : Ex} {p pos : Pos} (hg : Ly.gl bl.sc ("range" : Str) = true) (hf : ("range" : Str) ∈ G.free) (ns : noStar a = true) (ns2 : noStar c = true) (h : PA X [a, c] (tEs X.K X.mg E own (callP P k) false [ia, ic])) :
    PI X tg (.Call (.Name "range" p) [a, c] [] pos) (tI X.K X.mg E own (callP P k) ob .range [ia, ic]) := by
  refine pi_imp (pi_range2 (g.gl hg) (g.free _ hf) h (by rw [star_cons ns, star_cons ns2]; rfl) (star_cons ns2)) fun σ H R q => ?_
  obtain ⟨W, S, en, rfl, Rp, rr, q⟩ := q
  refine ⟨W, S, en, rfl, Rp, rr, q.eq.mono fun ds S1 W1 x1 R1 q1 vs hvs => ?_⟩
  obtain ⟨eq, xs, hw, q⟩ := q1
  have hl := evEs_len eq
  have hw := walk_range_inv hw
  unfold rangeOf at hw
  split at hw
  · simp at hl
  · rename_i i j _
    split at hw
    · rename_i hj
      cases hw
      obtain ⟨v, r, rfl, hv, hr⟩ := repMs_cons hvs
      obtain ⟨v', r', rfl, hv', hr'⟩ := repMs_cons hr
      obtain rfl := repMs_nil hr'
      obtain rfl := hv.b.int_inv
      obtain rfl := hv'.b.int_inv
      have hj := Bool.and_eq_true_iff.mp hj
      obtain ⟨i1, i2⟩ := intOk_inv hj.1
      obtain ⟨j1, j2⟩ := intOk_inv hj.2
      exact ⟨i, j, rfl, ⟨i1, i2, j1, j2⟩, q _ fun Z z => wk_range⟩
    · cases hw
  · simp at hl
  · cases hw
theorem snd_range3 (g : Good CXx G P k N E bl X) {tg a c d : Expr} {ia ic id : Ex} {p pos : Pos} (hg : Ly.gl bl.sc ("range" : Str) = true) (hf : ("range" : Str) ∈ G.free) (ns : noStar a = true) (ns2 : noStar c = true) (ns3 : noStar d = true) (h : PA X [a, c, d] (tEs X.K X.mg E own (callP P k) false [ia, ic, id])) :
    PI X tg (.Call (.Name "range" p) [a, c, d] [] pos) (tI X.K X.mg E own (callP P k) ob .range [ia, ic, id]) := by
  refine pi_imp (pi_range3 (g.gl hg) (g.free _ hf) h (star_cons ns) (star_any fun y hy => ?_)) fun σ H R q => ?_
  · rcases List.mem_cons.mp hy with rfl | hy
    · exact ns2
    · rw [List.mem_singleton.mp hy]; exact ns3
  obtain ⟨W, S, en, rfl, Rp, rr, q⟩ := q
  refine ⟨W, S, en, rfl, Rp, rr, q.eq.mono fun ds S1 W1 x1 R1 q1 vs hvs => ?_⟩
  obtain ⟨eq, xs, hw, q⟩ := q1
  have hl := evEs_len eq
  have hw := walk_range_inv hw
  unfold rangeOf at hw
  split at hw
  · simp at hl
  · simp at hl
  · rename_i i j c _
    split at hw
    · rename_i hj
      cases hw
      obtain ⟨v, r, rfl, hv, hr⟩ := repMs_cons hvs
      obtain ⟨v', r', rfl, hv', hr'⟩ := repMs_cons hr
      obtain ⟨v'', r'', rfl, hv'', hr''⟩ := repMs_cons hr'
      obtain rfl := repMs_nil hr''
      obtain rfl := hv.b.int_inv
      obtain rfl := hv'.b.int_inv
      obtain rfl := hv''.b.int_inv
      have hj := Bool.and_eq_true_iff.mp hj
      have hc : c = -1 := by simpa using hj.2
      have hk := Bool.and_eq_true_iff.mp hj.1
      subst hc
      obtain ⟨i1, i2⟩ := intOk_inv hk.1
      obtain ⟨j1, j2⟩ := intOk_inv hk.2
      exact ⟨i, j, -1, _, rfl, RgC.neg i1 i2 j1 j2, q _ fun Z z => wk_rangeN⟩
    · cases hw
  · cases hw
theorem snd_enum (g : Good CXx G P k N E bl X) {a : Expr} {ia : Ex} {es : List Expr} {kk : Nat} {tpos p pos : Pos} (hg : Ly.gl bl.sc ("enumerate" : Str) = true) (hf : ("enumerate" : Str) ∈ G.free) (ns : noStar a = true) (h : PA X [a] (tEs X.K X.mg E own (callP P k) ob [ia])) :
    PI X (.Tuple es kk tpos) (.Call (.Name "enumerate" p) [a] [] pos) (tI X.K X.mg E own (callP P k) ob .enum [ia]) := by
  refine pi_imp (pi_enum (g.gl hg) (g.free _ hf) h (star_cons ns)) fun σ H R q => ?_
  obtain ⟨W, S, en, rfl, Rp, rr, q⟩ := q
  refine ⟨W, S, en, rfl, Rp, rr, q.eq.mono fun ds S1 W1 x1 R1 q1 vs hvs => ?_⟩
  obtain ⟨eq, xs, hw, q⟩ := q1
  have hl := evEs_len eq
  match ds, hl with
  | [d], _ =>
    obtain ⟨v, r, rfl, hv, hr⟩ := repMs_cons hvs
    obtain rfl := repMs_nil hr
    have hw : (match view S1 d with | .lst xs => some (enumD 0 xs) | _ => none) = some xs := hw
    split at hw
    · rename_i ys e
      cases hw
      have hm : ∀ n, d = .ref n → (n, S1[n]?) ∈ watch S1 [d] := fun n hn => watch_mem (by rw [hn]; exact List.mem_cons_self)
      obtain ⟨a, rfl, ⟨us, sq⟩, _⟩ := src_lst (Z := fun _ => False) zfor_none R1 hv hm e
      refine ⟨a, us, rfl, sq, q _ fun Z z => ?_⟩
      obtain ⟨a', ea, _, s⟩ := src_lst z R1 hv hm e
      cases ea
      exact wk_enum s
    · cases hw
theorem snd_zip (g : Good CXx G P k N E bl X) {a c : Expr} {ia ic : Ex} {es : List Expr} {kk : Nat} {tpos p pos : Pos} (hg : Ly.gl bl.sc ("zip" : Str) = true) (hf : ("zip" : Str) ∈ G.free) (ns : noStar a = true) (ns2 : noStar c = true) (h : PA X [a, c] (tEs X.K X.mg E own (callP P k) ob [ia, ic])) :
    PI X (.Tuple es kk tpos) (.Call (.Name "zip" p) [a, c] [] pos) (tI X.K X.mg E own (callP P k) ob .zip [ia, ic]) := by
  refine pi_imp (RZ.pi_zipA (g.gl hg) (g.free _ hf) h (star_cons ns) (star_any fun y hy => by rw [List.mem_singleton.mp hy]; exact ns2)) fun σ H R q => ?_
  obtain ⟨W, S, en, rfl, Rp, rr, q⟩ := q
  refine ⟨W, S, en, rfl, Rp, rr, q.eq.mono fun ds S1 W1 x1 R1 q1 vs hvs => ?_⟩
  obtain ⟨eq, xs, hw, q⟩ := q1
  have hl := evEs_len eq
  match ds, hl with
  | [d, e], _ =>
    obtain ⟨v, r, rfl, hv, hr⟩ := repMs_cons hvs
    obtain ⟨v', r', rfl, hv', hr'⟩ := repMs_cons hr
    obtain rfl := repMs_nil hr'
    have hw : (match view S1 d, view S1 e with | .lst xs, .lst ys => some (zipD xs ys) | .tup xs, .tup ys => some (zipD xs ys) | _, _ => none) = some xs := hw
    split at hw
    · rename_i ys zs e1 e2
      cases hw
      have hm : ∀ n, d = .ref n → (n, S1[n]?) ∈ watch S1 [d, e] := fun n hn => watch_mem (by rw [hn]; exact List.mem_cons_self)
      have hm2 : ∀ n, e = .ref n → (n, S1[n]?) ∈ watch S1 [d, e] := fun n hn => watch_mem (by rw [hn]; exact List.mem_cons_of_mem _ List.mem_cons_self)
      obtain ⟨a, rfl, ⟨us, sq⟩, _⟩ := src_lst (Z := fun _ => False) zfor_none R1 hv hm e1
      obtain ⟨a2, rfl, ⟨us2, sq2⟩, _⟩ := src_lst (Z := fun _ => False) zfor_none R1 hv' hm2 e2
      refine ⟨a, a2, us, us2, rfl, .inl ⟨sq, sq2, q _ fun Z z => ?_⟩⟩
      obtain ⟨a', ea, _, s⟩ := src_lst z R1 hv hm e1
      cases ea
      obtain ⟨a', ea, _, s2⟩ := src_lst z R1 hv' hm2 e2
      cases ea
      exact wk_zip s s2
    · rename_i ys zs e1 e2
      cases hw
      obtain ⟨a, rfl, ⟨us, sq⟩, _⟩ := src_tup (Z := fun _ => False) (w := watch S1 [d, e]) zfor_none R1 hv e1
      obtain ⟨a2, rfl, ⟨us2, sq2⟩, _⟩ := src_tup (Z := fun _ => False) (w := watch S1 [d, e]) zfor_none R1 hv' e2
      refine ⟨a, a2, us, us2, rfl, .inr ⟨sq, sq2, q _ fun Z z => ?_⟩⟩
      obtain ⟨a', ea, _, s⟩ := src_tup (w := watch S1 [d, e]) z R1 hv e1
      cases ea
      obtain ⟨a', ea, _, s2⟩ := src_tup (w := watch S1 [d, e]) z R1 hv' e2
      cases ea
      exact wk_zipT s s2
    · cases hw
/-- what is walked, from the text -/
theorem snd_iter (g : Good CXx G P k N E bl X) {cE' : Bool → Bl → Expr → Option Ex} (st : ∀ ob e ir, cE' ob bl e = some ir → noStar e = true) (ih : ∀ ob e ir, cE' ob bl e = some ir → Snd own P k E X ob e ir) {tg iter : Expr} {kk : Ik} {irs : List Ex} (h : cI G cE' ob (isTup tg) bl iter = some (kk, irs)) :
    PI X tg iter (tI X.K X.mg E own (callP P k) ob kk irs) ∧ ∀ x, foldedSetIterable iter X.env x = pure x := by
  have one : ∀ {ob' : Bool} {a : Expr} {ia : Ex}, cE' ob' bl a = some ia → PA X [a] (tEs X.K X.mg E own (callP P k) ob' [ia]) := fun {ob' a ia} h => (snd_args g (st ob') (ih ob') [a] [ia] (by unfold cArgs cArgs; rw [h]; rfl)).1
  have two : ∀ {ob' : Bool} {a c : Expr} {ia ic : Ex}, cE' ob' bl a = some ia → cE' ob' bl c = some ic → PA X [a, c] (tEs X.K X.mg E own (callP P k) ob' [ia, ic]) := fun {ob' a c ia ic} h h2 => (snd_args g (st ob') (ih ob') [a, c] [ia, ic] (by unfold cArgs cArgs cArgs; rw [h, h2]; rfl)).1
  have three : ∀ {ob' : Bool} {a c d : Expr} {ia ic id : Ex}, cE' ob' bl a = some ia → cE' ob' bl c = some ic → cE' ob' bl d = some id → PA X [a, c, d] (tEs X.K X.mg E own (callP P k) ob' [ia, ic, id]) := fun {ob' a c d ia ic id} h h2 h3 => (snd_args g (st ob') (ih ob') [a, c, d] [ia, ic, id] (by unfold cArgs cArgs cArgs cArgs; rw [h, h2, h3]; rfl)).1
  unfold cI at h
  split at h
  · rename_i x p args pos
    refine ⟨?_, fun _ => rfl⟩
    split at h
    · rename_i hc
      simp only [Bool.and_eq_true, decide_eq_true_eq] at hc
      obtain ⟨⟨⟨h1, h2⟩, h3⟩, rfl⟩ := hc
      split at h
      · obtain ⟨ia, e, h⟩ := map_some h
        cases h
        exact snd_range1 g h1 h3 (st _ _ _ e) (one e)
      · obtain ⟨ia, e, h⟩ := bind_some h
        obtain ⟨ic, e2, h⟩ := map_some h
        cases h
        exact snd_range2 g h1 h3 (st _ _ _ e) (st _ _ _ e2) (two e e2)
      · obtain ⟨ia, e, h⟩ := bind_some h
        obtain ⟨ic, e2, h⟩ := bind_some h
        obtain ⟨id, e3, h⟩ := map_some h
        cases h
        exact snd_range3 g h1 h3 (st _ _ _ e) (st _ _ _ e2) (st _ _ _ e3) (three e e2 e3)
      · cases h
    split at h
    · rename_i hc
      simp only [Bool.and_eq_true, decide_eq_true_eq] at hc
      obtain ⟨⟨⟨⟨h1, h2⟩, h3⟩, rfl⟩, h4⟩ := hc
      split at h
      · obtain ⟨ia, e, h⟩ := bind_some h
        obtain ⟨ic, e2, h⟩ := map_some h
        cases h
        cases tg <;> first | (cases h4; done) | skip
        exact snd_zip g h1 h3 (st _ _ _ e) (st _ _ _ e2) (two e e2)
      · cases h
    split at h
    · rename_i hc
      simp only [Bool.and_eq_true, decide_eq_true_eq] at hc
      obtain ⟨⟨⟨⟨h1, h2⟩, h3⟩, rfl⟩, h4⟩ := hc
      split at h
      · obtain ⟨ia, e, h⟩ := map_some h
        cases h
        cases tg <;> first | (cases h4; done) | skip
        exact snd_enum g h1 h3 (st _ _ _ e) (one e)
      · cases h
    · obtain ⟨ia, e, h⟩ := map_some h
      cases h
      exact snd_it (ih _ _ _ e).1
  · cases h
  · rename_i _ hx
    obtain ⟨ia, e, h⟩ := map_some h
    cases h
    refine ⟨snd_it (ih _ _ _ e).1, fun x => ?_⟩
    cases iter <;> first | rfl | exact (hx _ _ _ rfl).elim
end
end Ly
/-! Ly: targets, list comprehensions. -/
namespace Ly
open PySem PySem.Spec PyProof.Rows L2 PySem.SeqAt

/-! ### slots -/
section
variable {K : PySem.W.Frag} {mg : Str → Option Value} {own : List Nat} {Z : Addr → Prop} {W W' : Wd} {en : Env} {σ : L2.St} {S : Sto}
theorem REnv.put {i : Nat} {d : D} {v : V} (r : REnv K mg own W en σ) (ho : i ∉ own) (h : RepD K mg W d v) : REnv K mg own W (en.set i (some d)) (σ.set i (some v)) where
  len := by rw [List.length_set, List.length_set, r.len]
  val := fun j e he hj => by
    by_cases hij : i = j
    · subst hij
      rw [List.getElem?_set] at he ⊢
      rw [if_pos rfl] at he ⊢
      split at he
      · rename_i hl
        cases he
        rw [if_pos (by rw [← r.len]; exact hl)]
        exact ⟨v, rfl, h⟩
      · cases he
    · rw [List.getElem?_set_ne hij] at he ⊢
      exact r.val j e he hj
  mine := fun j e he hj => by
    have hij : i ≠ j := fun q => ho (q ▸ hj)
    rw [List.getElem?_set_ne hij] at he ⊢
    exact r.mine j e he hj
  apart := fun j l d e a b hj hl hne h1 h2 h3 h4 => by
    have hij : i ≠ j := fun q => ho (q ▸ hj)
    have hil : i ≠ l := fun q => ho (q ▸ hl)
    rw [List.getElem?_set_ne hij] at h1 h3
    rw [List.getElem?_set_ne hil] at h2 h4
    exact r.apart j l d e a b hj hl hne h1 h2 h3 h4
/-- where Z leaves the own lists -/
theorem REnv.extZ (r : REnv K mg own W en σ) (x : ExtZ Z W W') (z : ZOk Z W) (hs : ∀ a ∈ W.ρ, W.F a) (hz : ∀ i d a, i ∈ own → en[i]? = some (some d) → σ[i]? = some (some (.ref a)) → ¬ Z a) : REnv K mg own W' en σ where
  len := r.len
  val := fun i d h n => let ⟨v, h1, h2⟩ := r.val i d h n; ⟨v, h1, h2.extZ x z hs⟩
  mine := fun i d h n => by
    obtain ⟨a, vs, xs, e, h1, h2, h3, h4, h5⟩ := r.mine i d h n
    refine ⟨a, vs, xs, e, h1, x.keep _ _ h2 h4 (hz i d a n h h1), x.fsub _ h3, fun q => ?_, h5.extZ x z hs⟩
    rcases x.rnew _ q with q | q
    · exact h4 q
    · rw [h2] at q; cases q
  apart := r.apart
theorem wipe_get (σ : L2.St) : ∀ (vs : List Nat) (i : Nat), (wipe σ vs)[i]? = if i ∈ vs then σ[i]?.map (fun _ => none) else σ[i]?
  | [], i => by simp [wipe]
  | v :: vs, i => by
    unfold wipe
    by_cases h : v = i
    · subst h
      rw [List.getElem?_set, if_pos rfl, if_pos List.mem_cons_self]
      split
      · rename_i hl
        rw [wipe_length] at hl
        rw [List.getElem?_eq_getElem hl]; rfl
      · rename_i hl
        rw [wipe_length] at hl
        rw [List.getElem?_eq_none (by omega)]; rfl
    · rw [List.getElem?_set_ne h, wipe_get σ vs i]
      by_cases hi : i ∈ vs
      · rw [if_pos hi, if_pos (List.mem_cons_of_mem _ hi)]
      · rw [if_neg hi, if_neg (fun q => (List.mem_cons.mp q).elim (fun e => h e.symm) hi)]
theorem wipeE_length (en : Env) : ∀ vs : List Nat, (wipeE en vs).length = en.length
  | [] => rfl
  | v :: vs => by unfold wipeE; rw [List.length_set, wipeE_length en vs]
theorem wipeE_get (en : Env) : ∀ (vs : List Nat) (i : Nat), (wipeE en vs)[i]? = if i ∈ vs then en[i]?.map (fun _ => none) else en[i]?
  | [], i => by simp [wipeE]
  | v :: vs, i => by
    unfold wipeE
    by_cases h : v = i
    · subst h
      rw [List.getElem?_set, if_pos rfl, if_pos List.mem_cons_self]
      split
      · rename_i hl
        rw [wipeE_length] at hl
        rw [List.getElem?_eq_getElem hl]; rfl
      · rename_i hl
        rw [wipeE_length] at hl
        rw [List.getElem?_eq_none (by omega)]; rfl
    · rw [List.getElem?_set_ne h, wipeE_get en vs i]
      by_cases hi : i ∈ vs
      · rw [if_pos hi, if_pos (List.mem_cons_of_mem _ hi)]
      · rw [if_neg hi, if_neg (fun q => (List.mem_cons.mp q).elim (fun e => h e.symm) hi)]
theorem wipe_wipe (σ : L2.St) (vs : List Nat) : wipe (wipe σ vs) vs = wipe σ vs := by
  apply List.ext_getElem?
  intro i
  rw [wipe_get (wipe σ vs), wipe_get σ]
  split
  · cases σ[i]? <;> rfl
  · rfl
theorem wipe_set {σ : L2.St} {vs : List Nat} {i : Nat} {v : Option V} (h : i ∈ vs) : wipe (σ.set i v) vs = wipe σ vs := by
  apply List.ext_getElem?
  intro j
  rw [wipe_get, wipe_get]
  split
  · rw [List.getElem?_set]
    split
    · rename_i e
      subst e
      split
      · rename_i hl
        rw [List.getElem?_eq_getElem hl]; rfl
      · rename_i hl
        rw [List.getElem?_eq_none (by omega)]
    · rfl
  · rename_i hj
    rw [List.getElem?_set_ne (fun e => hj (by rw [← e]; exact h))]
theorem wipeE_some {vs : List Nat} {i : Nat} {d : D} (h : (wipeE en vs)[i]? = some (some d)) : i ∉ vs ∧ en[i]? = some (some d) := by
  rw [wipeE_get] at h
  split at h
  · cases q : en[i]? <;> (rw [q] at h; cases h)
  · rename_i hi
    exact ⟨hi, h⟩
theorem REnv.wipe (r : REnv K mg own W en σ) (vs : List Nat) : REnv K mg own W (wipeE en vs) (L2.wipe σ vs) where
  len := by rw [wipeE_length, wipe_length, r.len]
  val := fun i d h n => by
    obtain ⟨h1, h2⟩ := wipeE_some h
    rw [wipe_get, if_neg h1]
    exact r.val i d h2 n
  mine := fun i d h n => by
    obtain ⟨h1, h2⟩ := wipeE_some h
    rw [wipe_get, if_neg h1]
    exact r.mine i d h2 n
  apart := fun i j d e a b hi hj hne h1 h2 h3 h4 => by
    obtain ⟨k1, k2⟩ := wipeE_some h1
    obtain ⟨l1, l2⟩ := wipeE_some h2
    rw [wipe_get, if_neg k1] at h3
    rw [wipe_get, if_neg l1] at h4
    exact r.apart i j d e a b hi hj hne k2 l2 h3 h4
end

/-! ### targets -/
def tG (K : PySem.W.Frag) (mg : Str → Option Value) (own : List Nat) (t : Tg) : TG := fun v σ H Q => ∃ W S en d en', W.H = H ∧ Rep K mg W S ∧ REnv K mg own W en σ ∧ RepD K mg W d v ∧ t.put d en = some en' ∧
  ∀ σ', REnv K mg own W en' σ' → (∀ vs, (∀ i ∈ t.slots, i ∈ vs) → wipe σ' vs = wipe σ vs) → (∀ i ∈ own, σ'[i]? = σ[i]? ∧ en'[i]? = en[i]?) → Q σ' H
def tGs (K : PySem.W.Frag) (mg : Str → Option Value) (own : List Nat) (ts : List Tg) : TGs := fun vs σ H Q => ∃ W S en ds en', W.H = H ∧ Rep K mg W S ∧ REnv K mg own W en σ ∧ RepDs K mg W ds vs ∧ Tg.puts ts ds en = some en' ∧
  ∀ σ', REnv K mg own W en' σ' → (∀ vs, (∀ i ∈ Tg.slotss ts, i ∈ vs) → wipe σ' vs = wipe σ vs) → (∀ i ∈ own, σ'[i]? = σ[i]? ∧ en'[i]? = en[i]?) → Q σ' H
section
variable {CXx : CXT} {G : Glob} {P : Prog} {k : Nat} {N : List Str} {E : XK} {b : Bl} {X : Cx} {own : List Nat} {ob : Bool}
theorem cG_star {n : Nat} {e : Expr} {t : Tg} (h : cG N own b n e = some t) : noStar e = true := by
  cases n with
  | zero => cases h
  | succ n => cases e <;> first | rfl | cases h
theorem asg_cons {e : Expr} {es : List Expr} {env : PySem.Env} (h : noStar e = true) : assignEach (e :: es) env = (false, assign e env) :: assignEach es env := by
  cases e <;> first | rfl | cases h
theorem asg_len {env : PySem.Env} : ∀ {es : List Expr}, (assignEach es env).length = es.length
  | [] => rfl
  | e :: es => by
    cases e <;> (unfold assignEach; rw [List.length_cons, List.length_cons, asg_len])
theorem asg_star {env : PySem.Env} : ∀ {es : List Expr}, (∀ e ∈ es, noStar e = true) → (assignEach es env).findIdx? (·.1) = none
  | [], _ => rfl
  | e :: es, h => by
    rw [asg_cons (h e List.mem_cons_self), List.findIdx?_cons]
    simp only [Bool.false_eq_true, if_false]
    rw [asg_star fun x hx => h x (List.mem_cons_of_mem _ hx)]
    rfl
theorem puts_len : ∀ {ts : List Tg} {ds : List D} {en en' : Env}, Tg.puts ts ds en = some en' → ts.length = ds.length
  | [], [], _, _, _ => rfl
  | [], _ :: _, _, _, h => by simp [Tg.puts] at h
  | _ :: _, [], _, _, h => by simp [Tg.puts] at h
  | t :: ts, d :: ds, en, en', h => by
    rw [Tg.puts] at h
    obtain ⟨e1, _, h⟩ := bind_some h
    rw [List.length_cons, List.length_cons, puts_len h]
theorem snd_tgs (g : Good CXx G P k N E b X) {c : Expr → Option Tg} (st : ∀ e t, c e = some t → noStar e = true) (ih : ∀ e t, c e = some t → PG X e (tG X.K X.mg own t)) : ∀ (es : List Expr) (ts : List Tg), es.mapM c = some ts →
    PGs X es (tGs X.K X.mg own ts) ∧ (∀ e ∈ es, noStar e = true) ∧ ts.length = es.length
  | [], ts, h => by
    rw [List.mapM_nil] at h
    cases h
    refine ⟨⟨fun pins s σ H vs us Q I r q => pgs_nil.run pins s σ H vs us Q I r ?_⟩, (fun e h => by cases h), rfl⟩
    obtain ⟨W, S, en, ds, en', rfl, R, rr, hd, hp, q⟩ := q
    cases ds with
    | nil =>
      cases hd
      cases hp
      exact ⟨rfl, q σ rr (fun _ _ => rfl) fun _ _ => ⟨rfl, rfl⟩⟩
    | cons d ds => simp [Tg.puts] at hp
  | e :: es, ts, h => by
    rw [List.mapM_cons] at h
    obtain ⟨t, h1, h⟩ := bind_some h
    obtain ⟨r, h2, h⟩ := bind_some h
    cases h
    have s := ih e t h1
    have ns := st e t h1
    obtain ⟨s2, n2, l2⟩ := snd_tgs g st ih es r h2
    refine ⟨⟨fun pins s' σ H vs us Q I r' q => (pgs_cons s s2 (by rw [asg_cons ns]; rfl)).run pins s' σ H vs us Q I r' ?_⟩, (fun x hx => (List.mem_cons.mp hx).elim (fun z => by rw [z]; exact ns) (n2 x)), by rw [List.length_cons, List.length_cons, l2]⟩
    obtain ⟨W, S, en, ds, en', rfl, R, rr, hd, hp, q⟩ := q
    cases hd with
    | nil => simp [Tg.puts] at hp
    | cons h0 hr =>
      rw [Tg.puts] at hp
      obtain ⟨en1, p1, p2⟩ := bind_some hp
      refine ⟨_, _, rfl, W, S, en, _, en1, rfl, R, rr, h0, p1, fun σ1 rr1 w1 o1 => ?_⟩
      refine ⟨W, S, en1, _, en', rfl, R, rr1, hr, p2, fun σ2 rr2 w2 o2 => q σ2 rr2 (fun vs hvs => ?_) fun i hi => ⟨(o2 i hi).1.trans (o1 i hi).1, (o2 i hi).2.trans (o1 i hi).2⟩⟩
      have hv : ∀ i, i ∈ Tg.slots t ∨ i ∈ Tg.slotss r → i ∈ vs := fun i hi => hvs i (by show i ∈ Tg.slots t ++ Tg.slotss r; exact List.mem_append.mpr hi)
      rw [w2 vs fun i hi => hv i (.inr hi), w1 vs fun i hi => hv i (.inl hi)]
theorem snd_tg (g : Good CXx G P k N E b X) : ∀ (n : Nat) (e : Expr) (t : Tg), cG N own b n e = some t → PG X e (tG X.K X.mg own t)
  | 0, _, _, h => by cases h
  | n + 1, e, t, h => by
    cases e <;> first | (cases h; done) | skip
    · rename_i x pos
      have h : (if loc b x = true then (slot N x).bind fun i => if i ∈ own then none else some (Tg.nm i) else none) = some t := h
      split at h
      · rename_i hx
        obtain ⟨i, h1, h⟩ := bind_some h
        split at h
        · cases h
        · rename_i ho
          cases h
          obtain ⟨l1, l2⟩ := g.loc hx
          refine ⟨fun pins s' σ H v u Q I r q => (pg_name (by rw [g.hN]; exact g.nd) (by rw [g.hN]; exact slot_get h1) l1 l2).run pins s' σ H v u Q I r ?_⟩
          obtain ⟨W, S, en, d, en', rfl, R, rr, hd, hp, q⟩ := q
          rw [Tg.put] at hp
          cases hp
          refine q _ (rr.put ho hd) (fun vs hvs => wipe_set (hvs i (by simp [Tg.slots]))) fun j hj => ?_
          have hij : i ≠ j := fun e => ho (e ▸ hj)
          exact ⟨List.getElem?_set_ne hij, List.getElem?_set_ne hij⟩
      · cases h
    · rename_i es kk pos
      have h : (es.mapM (cG N own b n)).map Tg.tup = some t := h
      obtain ⟨ts, h1, rfl⟩ := map_some h
      obtain ⟨s, ns, hl⟩ := snd_tgs g (fun e t => cG_star) (snd_tg g n) es ts h1
      refine ⟨fun pins s' σ H v u Q I r q => (pg_tup (n := es.length) g.calm s asg_len (asg_star ns)).run pins s' σ H v u Q I r ?_⟩
      obtain ⟨W, S, en, d, en', rfl, R, rr, hd, hp, q⟩ := q
      cases hd with
      | tup l r0 =>
        rw [Tg.put] at hp
        refine ⟨_, _, rfl, l.sq, ?_, W, S, en, _, en', rfl, R, rr, r0, hp, q⟩
        rw [← r0.length, ← puts_len hp, hl]
      | _ => simp [Tg.put] at hp
end
end Ly
/-! Ly: list comprehensions. -/
namespace Ly
open PySem PySem.Spec PyProof.Rows L2 PySem.SeqAt
section
variable {K : PySem.W.Frag} {mg : Str → Option Value} {W W' : Wd} {S : Sto}
/-- the new list is done: it changes no more -/
theorem Ext.done {D : Addr} {o : HO} (hd : ∀ a, W.F a → W.H a ≠ none) (hn : W.H D = none) (hρ : D ∉ W.ρ) (x : ExtZ (fun a => a = D) (W.more D o) W') : Ext W (W'.less D) where
  keep := fun a u h n => by
    have hne : a ≠ D := fun e => by rw [e, hn] at h; cases h
    refine x.keep a u ?_ n hne
    show upd W.H D o a = some u
    rw [upd_ne hne]; exact h
  pre := x.pre
  fsub := fun a h => ⟨x.fsub a (.inl h), fun e => hd a h (by rw [e]; exact hn)⟩
  fnew := fun a h => by
    rcases x.fnew a h.1 with (z | z) | z
    · exact .inl z
    · exact absurd z h.2
    · refine .inr ?_
      rw [show (W.more D o).H = upd W.H D o from rfl, upd_ne h.2] at z
      exact z
  dom := fun a h => x.dom a (by
    show upd W.H D o a ≠ none
    by_cases e : a = D
    · subst e; rw [upd_same]; simp
    · rw [upd_ne e]; exact h)
  rnew := fun a h => by
    rcases x.rnew a h with z | z
    · exact .inl z
    · by_cases e : a = D
      · subst e
        rw [show (W.more a o).H = upd W.H a o from rfl, upd_same] at z
        cases z
      · rw [show (W.more D o).H = upd W.H D o from rfl, upd_ne e] at z
        exact .inr z
theorem not_in {D : Addr} {o : HO} (hρ : D ∉ W.ρ) (x : ExtZ (fun a => a = D) (W.more D o) W') : D ∉ W'.ρ := fun h => by
  rcases x.rnew D h with z | z
  · exact hρ z
  · rw [show (W.more D o).H = upd W.H D o from rfl, upd_same] at z
    cases z
end
section
variable {CXx : CXT} {G : Glob} {P : Prog} {k : Nat} {N : List Str} {E : XK} {b : Bl} {X : Cx} {own : List Nat} {ob : Bool}
/-- a clause's test -/
theorem snd_if {c : Option Expr} {ic : Option Ex} (h : (c = none ∧ ic = none) ∨ ∃ x a, c = some x ∧ ic = some a ∧ Snd own P k E X false x a) : PTs X c.toList (tCd X.K X.mg E own (callP P k) ic) := by
  rcases h with ⟨rfl, rfl⟩ | ⟨x, a, rfl, rfl, h⟩
  · refine ⟨fun pins s σ H Q I q => pts_nil.run pins s σ H Q I ?_⟩
    obtain ⟨W, S, en, rfl, R, rr, q⟩ := q
    rw [evC] at q
    exact q W (Ext.refl W) R
  · refine ⟨fun pins s σ H Q I q => (pts_one h.2).run pins s σ H Q I ?_⟩
    obtain ⟨W, S, en, rfl, R, rr, q⟩ := q
    rw [evC] at q
    refine ⟨W, S, en, rfl, R, rr, q.bind.mono fun x S1 W1 x1 R1 q1 => ?_⟩
    split at q1
    · exact ⟨_, rfl, q1 W1 (Ext.refl W1) R1⟩
    · exact q1.elim
theorem out_ok {α : Type} {K : PySem.W.Frag} {mg : Str → Option Value} {W : Wd} {r : Re α} {a : α} {S : Sto} {R : α → Sto → Wd → Prop} (e : r = .ok a S) (h : ∀ W', Ext W W' → Rep K mg W' S → R a S W') : Out K mg E W r R := by
  subst e
  exact h
theorem tLc_of {E' : XK} {vs : List Nat} {tg : Tg} {kk : Ik} {es : List Ex} {c : Option Ex} {e : Ex} (hv : ∀ i ∈ tg.slots, i ∈ vs) {σ : L2.St} {H : Hp} {Q : VK} (h : tE X.K X.mg E own (callP P k) ob (.comp vs tg kk es c e) σ H Q) :
    tLc (tI X.K X.mg E own (callP P k) true kk es) (tG X.K X.mg own tg) (tCd X.K X.mg E' own (callP P k) c) (tE X.K X.mg E' own (callP P k) false e) vs σ H Q := by
  obtain ⟨W, S, en, rfl, R, rr, q⟩ := h
  rw [evE] at q
  refine ⟨W, S, en, rfl, R, rr, q.bind.mono fun ds S1 W1 x1 R1 q1 => ?_⟩
  have rr1 := rr.ext x1 R.sub
  split at q1
  · exact q1.elim
  rename_i xs hw
  split at q1
  case isFalse => exact q1.elim
  rename_i hz
  refine ⟨xs, hw, fun J hJ D hD => ?_⟩
  generalize hf : (fun (x : Ly.D) (S : Sto) => match tg.put x (wipeE en vs) with
      | none => (Re.bad : Re (Option Ly.D))
      | some en' => (evC (callP P k) c en' S).bind fun b S => if b then (evE (callP P k) e en' S).bind fun y S => .ok (some y) S else .ok none S) = f at q1
  have hD0 : D ∉ W1.ρ := fun h => R1.dom D (R1.sub D h) hD
  have wk := hJ (fun a => a = D) (by unfold ZFor; rw [if_pos rfl]; intro a e; rw [e]; exact hD)
  have zok : ZOk (fun a => a = D) W1 := fun a e => .inr (by rw [e]; exact hD)
  have x0 : Ext W1 (W1.more D (.lst [])) := Ext.more hD
  have zok0 : ZOk (fun a => a = D) (W1.more D (.lst [])) := fun a e => .inl (.inr e)
  have hown : ∀ i d a, i ∈ own → en[i]? = some (some d) → σ[i]? = some (some (.ref a)) → a ≠ D := fun i d a hi h1 h2 ea => by
    obtain ⟨a', vs', xs', _, k1, k2, _⟩ := rr1.mine i d h1 hi
    rw [h2] at k1; cases k1
    rw [ea, hD] at k2; cases k2
  -- what stands at turn i
  let Inv' : Nat → Hp → Prop := fun i H => i ≤ xs.length ∧ ∃ (W' : Wd) (S' : Sto) (acc : List Ly.D) (us : List V), W'.H = H ∧ ExtZ (fun a => a = D) (W1.more D (.lst [])) W' ∧ Rep X.K X.mg W' S' ∧ still S' (watch S1 ds) = true ∧
    W'.H D = some (.lst us) ∧ RepDs X.K X.mg W' acc us ∧ acc.length ≤ i ∧ Out X.K X.mg E W1 (compLoop f (watch S1 ds) (xs.drop i) acc S') fun d _ W' => ∀ v, RepM ob X.K X.mg W' d v → Q v W'.H
  refine ⟨fun i m H => m = xs.length - i ∧ Inv' i H, ⟨xs.length, by simp, Nat.zero_le _, W1.more D (.lst []), S1, [], [], rfl, ?_, R1.more hD, still_watch ds, ?_, .nil, Nat.le_refl _, q1⟩, ?_⟩
  · exact (Ext.refl _).z
  · show upd W1.H D (.lst []) D = _
    rw [upd_same]
  rintro i m H ⟨rfl, hi, W', S', acc, us, rfl, xx, R', st, hu, ru, hl, q⟩
  have xall : ExtZ (fun a => a = D) W1 W' := x0.z.trans xx
  have hDρ : D ∉ W'.ρ := not_in hD0 xx
  have hDF : W'.F D := xx.fsub D (.inr rfl)
  by_cases hlt : i < xs.length
  · refine .inr ⟨wk.go i W' S' hlt xall R' st, fun H => Inv' (i + 1) H, fun H' h => ⟨_, by omega, rfl, h⟩, fun x H' y => ?_⟩
    obtain ⟨W2, d, rfl, x2, R2, hd, rd⟩ := wk.yld i W' S' x H' hlt xall R' st y
    have ed : xs.drop i = d :: xs.drop (i + 1) := by
      obtain ⟨hlt', e⟩ := List.getElem?_eq_some_iff.mp hd
      rw [List.drop_eq_getElem_cons hlt', e]
    rw [ed, compLoop] at q
    have hu2 : W2.H D = some (.lst us) := x2.keep _ _ hu hDρ
    have hDρ2 : D ∉ W2.ρ := fun h => by
      rcases x2.rnew _ h with z | z
      · exact hDρ z
      · rw [hu] at z; cases z
    split at q
    case h_2 => exact q.elim
    rename_i r S2 hr
    split at q
    case isFalse => exact q.elim
    rename_i st2
    rw [← hf] at hr
    have hr : (match tg.put d (wipeE en vs) with
      | none => (Re.bad : Re (Option Ly.D))
      | some en' => (evC (callP P k) c en' S').bind fun b S => if b then (evE (callP P k) e en' S).bind fun y S => .ok (some y) S else .ok none S) = .ok r S2 := hr
    split at hr
    · cases hr
    rename_i en' hp
    have rr2 : REnv X.K X.mg own W2 (wipeE en vs) (wipe σ vs) := ((rr1.extZ xall zok R1.sub hown).wipe vs).ext x2 R'.sub
    refine ⟨W2, S', wipeE en vs, d, en', rfl, R2, rr2, rd, hp, fun σ2 rr3 w2 _ => ⟨by rw [w2 vs hv, wipe_wipe], ?_⟩⟩
    obtain ⟨bb, S3, hc, hr⟩ := bind_ok hr
    refine ⟨W2, S', en', rfl, R2, rr3, out_ok hc fun W3 x3 R3 => ?_⟩
    have hu3 : W3.H D = some (.lst us) := x3.keep _ _ hu2 hDρ2
    have hDρ3 : D ∉ W3.ρ := fun h => by
      rcases x3.rnew _ h with z | z
      · exact hDρ2 z
      · rw [hu2] at z; cases z
    have xx3 := (xx.trans x2.z).trans x3.z
    have ru3 := (ru.ext x2 R'.sub).ext x3 R2.sub
    cases bb with
    | true =>
      refine iteT ?_
      have hr : ((evE (callP P k) e en' S3).bind fun y S => .ok (some y) S) = .ok r S2 := hr
      obtain ⟨y, S4, he, hr⟩ := bind_ok hr
      cases hr
      refine ⟨W3, S3, en', rfl, R3, rr3.ext x3 R2.sub, out_ok he fun W4 x4 R4 v hv => ?_⟩
      have hv : RepD X.K X.mg W4 y v := hv
      have hu4 : W4.H D = some (.lst us) := x4.keep _ _ hu3 hDρ3
      have hDρ4 : D ∉ W4.ρ := fun h => by
        rcases x4.rnew _ h with z | z
        · exact hDρ3 z
        · rw [hu3] at z; cases z
      have xx4 := xx3.trans x4.z
      have hF4 : W4.F D := x4.fsub _ (x3.fsub _ (x2.fsub _ hDF))
      have xat : ExtZ (fun a => a = D) W4 (W4.at D (.lst (us ++ [v]))) := ExtZ.at rfl (by rw [hu4]; simp)
      have zo4 : ZOk (fun a => a = D) W4 := fun a e => .inl (by rw [e]; exact hF4)
      refine ⟨us, hu4, ?_, by omega, W4.at D (.lst (us ++ [v])), S2, acc ++ [y], us ++ [v], rfl, xx4.trans xat, R4.at hF4 hDρ4, st2, ?_, ?_, ?_, q⟩
      · rw [← line_eq, ← ru.length]; omega
      · show upd W4.H D _ D = _
        rw [upd_same]
      · exact ((ru3.ext x4 R3.sub).append (.cons hv .nil)).extZ xat zo4 R4.sub
      · rw [List.length_append]
        show acc.length + 1 ≤ i + 1
        omega
    | false =>
      refine iteF ?_
      cases (show (Re.ok none S3 : Re (Option Ly.D)) = .ok r S2 from hr)
      exact ⟨by omega, W3, S2, acc, us, rfl, xx3, R3, st2, hu3, ru3, by omega, q⟩
  · have ei : i = xs.length := by omega
    subst ei
    refine .inl ⟨wk.stop W' S' xall R' st, ?_⟩
    rw [List.drop_length, compLoop] at q
    have xd : Ext W1 (W'.less D) := Ext.done R1.dom hD hD0 xx
    refine q (W'.less D) xd (R'.less hDρ) (.ref D) (RepM.of (.lst (.inl ⟨.inl hu, fun z => z.2 rfl⟩) ru.less))
end
end Ly
/-! Ly: the evaluator's terms tell what the text's trees do: all expressions. -/
namespace Ly
open PySem PySem.Spec PyProof.Rows L2 PySem.SeqAt
section
variable {CXx : CXT} {G : Glob} {P : Prog} {k : Nat} {N : List Str} {own : List Nat}
theorem Good.blk {E : XK} {b : Bl} {X : Cx} (g : Good CXx G P k N E b X) (scope : Scope) (s : Shared) (H : Hp) (C : Addr) (cl : List (Str × Addr)) (fp : List Addr) :
    Good CXx G P k N E0 ⟨relS scope b.sc, fun x => scope.names.lookup x == some .cell⟩ (X.blk s H scope (compEnvC scope cl C X.env) fp) where
  calm := g.calm
  hN := g.hN
  nd := g.nd
  sc := by
    show relS scope X.env.scope = _
    rw [g.sc]
  fo := fun x h => h
  room := g.room
  pass := fun pins σ H s e s' _ c => (g.e0 _ _ _ _ _ c).elim
  e0 := g.e0
  consts := g.consts
  free := g.free
  fns := g.fns
theorem plainIx_of {i : Expr} (h : ∀ lo hi st pos, i ≠ .Slice lo hi st pos) : PlainIx i := by
  cases i <;> first | exact fun _ _ => rfl | exact absurd rfl (h _ _ _ _)
theorem Snd.b {E : XK} {ob : Bool} {X : Cx} {e : Expr} {ir : Ex} (h : Snd own P k E X false e ir) : Snd own P k E X ob e ir := by
  refine ⟨pe_imp h.1 fun σ H Q q => ?_, h.2⟩
  cases ob with
  | true => exact tE_b q
  | false => exact q
theorem sound_E : ∀ (n : Nat) (E : XK) (ob : Bool) (b : Bl) (X : Cx) (e : Expr) (ir : Ex), Good CXx G P k N E b X → cE G N own n ob b e = some ir → Snd own P k E X ob e ir
  | 0, _, _, _, _, _, _, _, h => by cases h
  | n + 1, E, ob, b, X, e, ir, g, h => by
    have ih : ∀ ob e ir, cE G N own n ob b e = some ir → Snd own P k E X ob e ir := fun ob e ir h => sound_E n E ob b X e ir g h
    have st : ∀ ob e ir, cE G N own n ob b e = some ir → noStar e = true := fun ob e ir h => cE_star h
    unfold cE at h
    split at h
    · cases h; exact snd_const _ _ _ pe_int fun W => .int _
    · cases h; exact snd_const _ _ _ pe_bl fun W => .bl _
    · cases h; exact snd_const _ _ _ pe_str fun W => .str _
    · cases h; exact snd_const _ _ _ pe_non fun W => .non
    · split at h
      · rename_i hp
        split at h
        · rename_i hv
          obtain ⟨i, h1, h⟩ := bind_some h
          split at h
          · rename_i hi
            split at h
            · rename_i hob
              cases h
              exact snd_slot g hp hv h1 fun _ => hob
            · cases h
          · rename_i hi
            cases h
            exact snd_slot g hp hv h1 fun q => absurd q hi
        · split at h
          · rename_i hg
            split at h
            · rename_i d hc
              cases h
              exact snd_glob g hp hg hc
            · split at h
              · rename_i hf
                cases h
                exact snd_fn g hp hg hf
              · cases h
          · cases h
      · cases h
    · obtain ⟨o, h1, h⟩ := bind_some h
      obtain ⟨a, h2, h⟩ := bind_some h
      obtain ⟨c, h3, h⟩ := map_some h
      subst h
      rw [bopOf_eq h1]
      exact snd_bin g (ih _ _ _ h2) (ih _ _ _ h3)
    · obtain ⟨a, h1, h⟩ := map_some h
      subst h
      exact snd_neg g (ih _ _ _ h1)
    · obtain ⟨a, h1, h⟩ := map_some h
      subst h
      exact snd_not g (ih _ _ _ h1)
    · split at h
      · cases h
      · rename_i hm
        obtain ⟨o, h1, h⟩ := bind_some h
        obtain ⟨a, h2, h⟩ := bind_some h
        obtain ⟨c, h3, h⟩ := map_some h
        subst h
        rw [copOf_eq h1] at hm ⊢
        exact snd_cmp g (by simpa using hm) (ih _ _ _ h2) (ih _ _ _ h3)
    · split at h
      · cases h
      · rename_i hm
        obtain ⟨o, h1, h⟩ := bind_some h
        obtain ⟨o', h1', h⟩ := bind_some h
        obtain ⟨a, h2, h⟩ := bind_some h
        obtain ⟨c, h3, h⟩ := bind_some h
        obtain ⟨d, h4, h⟩ := map_some h
        subst h
        rw [copOf_eq h1'] at hm ⊢
        rw [copOf_eq h1]
        exact snd_chain g (by simpa using hm) (ih _ _ _ h2) (ih _ _ _ h3) (ih _ _ _ h4)
    · rename_i pos
      have s := snd_bool (ob := ob) g (fun ob e ir h => (ih _ _ _ h).b) _ _ pos h
      exact ⟨s.1, s.2.pt⟩
    · obtain ⟨c, h1, h⟩ := bind_some h
      obtain ⟨x, h2, h⟩ := bind_some h
      obtain ⟨y, h3, h⟩ := map_some h
      subst h
      exact snd_ite g (ih _ _ _ h1) (ih _ _ _ h2) (ih _ _ _ h3)
    · obtain ⟨l, h1, h⟩ := map_some h
      subst h
      exact snd_tup g (snd_args g (st _) (ih _) _ _ h1).1
    · obtain ⟨l, h1, h⟩ := map_some h
      subst h
      exact snd_lst g (snd_args g (st _) (ih _) _ _ h1).1
    · split at h
      · rename_i hc
        obtain ⟨hg, hp⟩ := Bool.and_eq_true_iff.mp hc
        split at h
        · rename_i hf
          obtain ⟨l, h1, h⟩ := map_some h
          subst h
          have s := snd_args g (st _) (ih _) _ _ h1
          exact snd_call g hg hp hf s.1 s.2 (cArgs_nil h1)
        · split at h
          · rename_i hf
            split at h
            · rename_i hx
              subst hx
              split at h
              · split at h
                · rename_i hc2
                  simp only [Bool.and_eq_true, decide_eq_true_eq] at hc2
                  obtain ⟨i, h1, h⟩ := bind_some h
                  obtain ⟨a, h2, h⟩ := map_some h
                  subst h
                  exact snd_isi g hg hf hc2.1.1 hc2.1.2 hc2.2 h1 (ih _ _ _ h2) (st _ _ _ h2)
                · cases h
              · cases h
            · split at h
              · cases h
              · obtain ⟨i, h1, h⟩ := bind_some h
                obtain ⟨l, h2, h⟩ := map_some h
                subst h
                have s := snd_args g (st _) (ih _) _ _ h2
                exact snd_bi g hg hp hf h1 s.1 s.2
          · cases h
      · cases h
    · split at h
      · rename_i hc
        obtain ⟨hl, hb⟩ := Bool.and_eq_true_iff.mp hc
        obtain ⟨m, h1, h⟩ := bind_some h
        obtain ⟨o, h2, h⟩ := bind_some h
        obtain ⟨a, h3, h⟩ := map_some h
        subst h
        exact snd_me g h1 hb hl (st _ _ _ h3) (ih _ _ _ h2) (ih _ _ _ h3)
      · cases h
    · obtain ⟨a, h1, h⟩ := bind_some h
      obtain ⟨lo, h2, h⟩ := bind_some h
      obtain ⟨hi, h3, h⟩ := map_some h
      subst h
      refine snd_slc g (ih _ _ _ h1) ?_ ?_
      · split at h2
        · cases h2; exact .inl ⟨rfl, rfl⟩
        · obtain ⟨a, e, rfl⟩ := map_some h2
          exact .inr ⟨_, _, rfl, rfl, ih _ _ _ e⟩
      · split at h3
        · cases h3; exact .inl ⟨rfl, rfl⟩
        · obtain ⟨a, e, rfl⟩ := map_some h3
          exact .inr ⟨_, _, rfl, rfl, ih _ _ _ e⟩
    · obtain ⟨a, h1, h⟩ := bind_some h
      obtain ⟨i, h2, h⟩ := map_some h
      subst h
      refine snd_idx g (plainIx_of fun lo hi st pos e => ?_) (ih _ _ _ h1) (ih _ _ _ h2)
      rw [e] at h2
      cases n <;> cases h2
    · rename_i elt tg iter ifs scope pos
      have h : (if blkC N b.sc _ _ then _ else none) = some ir := h
      split at h
      · rename_i hk
        obtain ⟨t, h1, h⟩ := bind_some h
        split at h
        · rename_i hsl
          obtain ⟨it, h2, h⟩ := bind_some h
          obtain ⟨c, h3, h⟩ := bind_some h
          obtain ⟨e, h4, h⟩ := map_some h
          subst h
          obtain ⟨kk, es⟩ := it
          have hi := snd_iter (E := E) (own := own) (P := P) (k := k) g (st := fun ob e ir h => cE_star h) (ih := ih) h2
          have gb := fun s H C cl fp => g.blk scope s H C cl fp
          have hsl : ∀ i ∈ t.slots, i ∈ (ownOf N scope).map (·.2) := fun i hi => by
            have := List.all_eq_true.mp hsl i hi
            exact of_decide_eq_true this
          have hif : ∀ (s : Shared) (H : Hp) (C : Addr) (cl : List (Str × Addr)) (fp : List Addr), PTs (X.blk s H scope (compEnvC scope cl C X.env) fp) ifs (tCd X.K X.mg E0 own (callP P k) c) := fun s H C cl fp => by
            split at h3
            · cases h3
              exact snd_if (c := none) (.inl ⟨rfl, rfl⟩)
            · obtain ⟨a, e, rfl⟩ := map_some h3
              exact snd_if (c := some _) (.inr ⟨_, _, rfl, rfl, sound_E n E0 false _ _ _ _ (gb s H C cl fp) e⟩)
            · cases h3
          refine .mk' (pe_imp (pe_lc (own := ownOf N scope) g.calm (by rw [g.hN]; exact g.nd) hi.1 (by rw [g.hN, g.sc]; exact blkOk_by hk) (fun s H C cl fp => snd_tg (gb s H C cl fp) 20 _ _ h1) hif
            (fun s H C cl fp => (sound_E n E0 false _ _ _ _ (gb s H C cl fp) h4).1) hi.2) fun σ H Q q => tLc_of hsl q) fun _ => rfl
        · cases h
      · cases h
    · cases h
end
end Ly
/-! Ly: the order of the stores. -/
namespace Ly
open PySem PySem.Spec PyProof.Rows L2 PySem.SeqAt
section
variable {env : PySem.Env}
theorem swap_name {x : Str} {p : Pos} {e : Expr} : swappedStores [.Name x p] e env = pure none := by
  unfold swappedStores
  cases e <;> rfl
theorem swap_other {ts : List Expr} {k : Nat} {tp : Pos} {e : Expr} (h : ∀ vs k p, e ≠ .Tuple vs k p) : swappedStores [.Tuple ts k tp] e env = pure none := by
  unfold swappedStores
  cases e <;> first | rfl | exact absurd rfl (h _ _ _)
theorem swap_folded {ts vs : List Expr} {k k2 : Nat} {tp vp : Pos} (h : vs.all (foldedForSure 8) = true) : swappedStores [.Tuple ts k tp] (.Tuple vs k2 vp) env = pure none := by
  simp only [swappedStores]
  split
  · rfl
  · split
    · rfl
    · split
      · rfl
      · simp [h]
theorem swap_length {ts vs : List Expr} {k k2 : Nat} {tp vp : Pos} (h : (vs.length = 2 || vs.length = 3) = false) : swappedStores [.Tuple ts k tp] (.Tuple vs k2 vp) env = pure none := by
  simp only [swappedStores]
  split
  · rfl
  · rename_i hc
    exfalso
    simp at hc h
    omega
theorem swap_two {x y : Str} {px py tp vp : Pos} {k k2 : Nat} {a b : Expr} (hk : env.blockKind = .function) (h1 : env.kindOf x = some .local) (h2 : env.kindOf y = some .local) (hl : (py.line == px.line) = true) (hne : x ≠ y)
    (ns : ∀ e ∈ [a, b], noStar e = true) (hf : [a, b].all (foldedForSure 8) = false) (hc : [a, b].all (constantsAlone 8) = false) : swappedStores [.Tuple [.Name x px, .Name y py] k tp] (.Tuple [a, b] k2 vp) env = pure (some [x, y]) := by
  have hd : ([x, y] : List Str).eraseDups = [x, y] := by
    have e : (y == x) = false := by simpa using fun e => hne e.symm
    simp [List.eraseDups_cons, e]
  have hp : (Expr.Name x px).pos = px := rfl
  have hl : py.line = px.line := by simpa using hl
  simp only [swappedStores]
  rw [if_neg (by simp [hk]), if_neg (fun h => by
    obtain ⟨e, he, h⟩ := List.any_eq_true.mp h
    have := ns e he
    cases e <;> first | (cases h; done) | (cases this; done))]
  simp only [hf, hc, List.filterMap_cons, List.filterMap_nil, List.head?_cons, Option.map_some, Option.getD_some, h1, h2, hp, hl, beq_self_eq_true, Bool.and_self, if_true, hd, List.length_cons, List.length_nil, bne_self_eq_false, Bool.or_self, Bool.false_eq_true, if_false]
theorem swap_three {x y z : Str} {px py pz tp vp : Pos} {k k2 : Nat} {a b c : Expr} (hk : env.blockKind = .function) (h1 : env.kindOf x = some .local) (h2 : env.kindOf y = some .local) (h3 : env.kindOf z = some .local)
    (hl : (py.line == px.line) = true) (hl2 : (pz.line == px.line) = true) (hne : x ≠ y) (hne2 : x ≠ z) (hne3 : y ≠ z)
    (ns : ∀ e ∈ [a, b, c], noStar e = true) (hf : [a, b, c].all (foldedForSure 8) = false) (hc : [a, b, c].all (constantsAlone 8) = false) : swappedStores [.Tuple [.Name x px, .Name y py, .Name z pz] k tp] (.Tuple [a, b, c] k2 vp) env = pure (some [x, y, z]) := by
  have hd : ([x, y, z] : List Str).eraseDups = [x, y, z] := by
    have e : (y == x) = false := by simpa using fun e => hne e.symm
    have e2 : (z == x) = false := by simpa using fun e => hne2 e.symm
    have e3 : (z == y) = false := by simpa using fun e => hne3 e.symm
    simp [List.eraseDups_cons, e, e2, e3]
  have hp : (Expr.Name x px).pos = px := rfl
  have hl : py.line = px.line := by simpa using hl
  have hl2 : pz.line = px.line := by simpa using hl2
  simp only [swappedStores]
  rw [if_neg (by simp [hk]), if_neg (fun h => by
    obtain ⟨e, he, h⟩ := List.any_eq_true.mp h
    have := ns e he
    cases e <;> first | (cases h; done) | (cases this; done))]
  simp only [hf, hc, List.filterMap_cons, List.filterMap_nil, List.head?_cons, Option.map_some, Option.getD_some, h1, h2, h3, hp, hl, hl2, beq_self_eq_true, Bool.and_self, if_true, hd, List.length_cons, List.length_nil, bne_self_eq_false, Bool.or_self, Bool.false_eq_true, if_false]
end
end Ly
/-! Ly: statements. -/
namespace Ly
open PySem PySem.Spec PyProof.Rows L2 PySem.SeqAt

/-- the def's state; W0: the world at its entry -/
structure SEnv (K : PySem.W.Frag) (mg : Str → Option Value) (own : List Nat) (W0 W : Wd) (en : Env) (σ : L2.St) : Prop where
  r : REnv K mg own W en σ
  fresh : ∀ i d a, i ∈ own → en[i]? = some (some d) → σ[i]? = some (some (.ref a)) → W0.H a = none
/-- what goes on in a def: what may not change stays -/
abbrev ExtS (W W' : Wd) : Prop := ExtZ W.F W W'
theorem ExtS.trans {W W' W'' : Wd} (x : ExtS W W') (y : ExtS W' W'') : ExtS W W'' where
  keep := fun a o h n f => y.keep a o (x.keep a o h n f) (fun q => by
    rcases x.rnew a q with q | q
    · exact n q
    · rw [h] at q; cases q) fun q => by
    rcases x.fnew a q with q | q
    · exact f q
    · rw [h] at q; cases q
  pre := x.pre.trans y.pre
  fsub := fun a h => y.fsub a (x.fsub a h)
  fnew := fun a h => by
    rcases y.fnew a h with z | z
    · exact x.fnew a z
    · refine .inr ?_
      cases q : W.H a with
      | none => rfl
      | some o => exact absurd z (x.dom a (by rw [q]; simp))
  dom := fun a h => y.dom a (x.dom a h)
  rnew := fun a h => by
    rcases y.rnew a h with z | z
    · exact x.rnew a z
    · refine .inr ?_
      cases q : W.H a with
      | none => rfl
      | some o => exact absurd z (x.dom a (by rw [q]; simp))
theorem Ext.s {W W' : Wd} (x : Ext W W') : ExtS W W' := x.z
theorem ExtS.refl (W : Wd) : ExtS W W := (Ext.refl W).z
/-- what is told of a statement's result -/
def OutS (K : PySem.W.Frag) (mg : Str → Option Value) (E : XK) (own : List Nat) (W0 W : Wd) (D : Ends) (r : Re (Fl × Env)) : Prop := match r with
  | .ok (.nx, en') S => ∀ W' σ', Ext W0 W' → ExtS W W' → Rep K mg W' S → SEnv K mg own W0 W' en' σ' → D.nx σ' W'.H
  | .ok (.brk, en') S => ∀ W' σ', Ext W0 W' → ExtS W W' → Rep K mg W' S → SEnv K mg own W0 W' en' σ' → D.bk σ' W'.H
  | .ok (.cnt, en') S => ∀ W' σ', Ext W0 W' → ExtS W W' → Rep K mg W' S → SEnv K mg own W0 W' en' σ' → D.ct σ' W'.H
  | .ok (.ret d, _) S => ∀ W', Ext W0 W' → Rep K mg W' S → ∀ v, RepD K mg W' d v → D.rt v W'.H
  | .exc c fs S => ∀ W' cls od, Ext W0 W' → Rep K mg W' S → RepX K mg W' c fs cls od → E cls od W'.H
  | .bad => False
section
variable {K : PySem.W.Frag} {mg : Str → Option Value} {E : XK} {own : List Nat} {W0 W W' : Wd} {D : Ends} {r : Re (Fl × Env)} {S : Sto} {en : Env} {σ : L2.St}
theorem OutS.ext (h : OutS K mg E own W0 W D r) (x : ExtS W W') : OutS K mg E own W0 W' D r := by
  unfold OutS at h ⊢
  split
  · exact fun W'' σ' y z R e => h W'' σ' y (ExtS.trans x z) R e
  · exact fun W'' σ' y z R e => h W'' σ' y (ExtS.trans x z) R e
  · exact fun W'' σ' y z R e => h W'' σ' y (ExtS.trans x z) R e
  · exact h
  · exact h
  · exact h
/-- an expression ahead -/
theorem OutS.bind {α : Type} {q : Re α} {f : α → Sto → Re (Fl × Env)} (x0 : Ext W0 W) (h : OutS K mg E own W0 W D (q.bind f)) : Out K mg E W q fun a S W' => OutS K mg E own W0 W' D (f a S) := by
  cases q with
  | ok a S => exact fun W' x R => OutS.ext (r := f a S) h x.z
  | exc c fs S => exact fun W' cls od x R q => h W' cls od (x0.trans x) R q
  | bad => exact h
theorem SEnv.ext (e : SEnv K mg own W0 W en σ) (x : Ext W W') (hs : ∀ a ∈ W.ρ, W.F a) : SEnv K mg own W0 W' en σ := ⟨e.r.ext x hs, e.fresh⟩
theorem SEnv.put {en' : Env} {σ' : L2.St} (e : SEnv K mg own W0 W en σ) (r : REnv K mg own W' en' σ') (o : ∀ i ∈ own, σ'[i]? = σ[i]? ∧ en'[i]? = en[i]?) : SEnv K mg own W0 W' en' σ' :=
  ⟨r, fun i d a hi h1 h2 => by
    obtain ⟨o1, o2⟩ := o i hi
    rw [o1] at h2
    rw [o2] at h1
    exact e.fresh i d a hi h1 h2⟩
/-- an own slot is given a new list -/
theorem SEnv.mkOwn {i : Nat} {p : Addr} {xs : List Ly.D} {vs : List V} (e : SEnv K mg own W0 W en σ) (R : Rep K mg W S) (x0 : Ext W0 W) (hi : i ∈ own) (hn : W.H p = none) (h : RepDs K mg W xs vs) :
    SEnv K mg own W0 (W.more p (.lst vs)) (en.set i (some (.lst xs))) (σ.set i (some (.ref p))) := by
  have x : Ext W (W.more p (.lst vs)) := Ext.more hn
  have e' := e.r.ext x R.sub
  have pn : W0.H p = none := by
    cases q : W0.H p with
    | none => rfl
    | some o => exact absurd hn (x0.dom p (by rw [q]; simp))
  refine ⟨⟨by rw [List.length_set, List.length_set, e.r.len], fun j d hd hj => ?_, fun j d hd hj => ?_, fun j l d d' a b hj hl hne h1 h2 h3 h4 => ?_⟩, fun j d a hj h1 h2 => ?_⟩
  · have hij : i ≠ j := fun q => hj (q ▸ hi)
    rw [List.getElem?_set_ne hij] at hd ⊢
    exact e'.val j d hd hj
  · by_cases hij : i = j
    · subst hij
      rw [List.getElem?_set] at hd ⊢
      rw [if_pos rfl] at hd ⊢
      split at hd
      · rename_i hl
        cases hd
        rw [if_pos (by rw [← e.r.len]; exact hl)]
        exact ⟨p, vs, xs, rfl, rfl, upd_same, .inr rfl, fun q => R.dom p (R.sub p q) hn, h.ext x R.sub⟩
      · cases hd
    · rw [List.getElem?_set_ne hij] at hd ⊢
      exact e'.mine j d hd hj
  · have low : ∀ {j : Nat} {d : Ly.D} {a : Addr}, j ∈ own → i ≠ j → (en.set i (some (.lst xs)))[j]? = some (some d) → (σ.set i (some (.ref p)))[j]? = some (some (.ref a)) → en[j]? = some (some d) ∧ σ[j]? = some (some (.ref a)) ∧ W.H a ≠ none := fun {j d a} hj hij h1 h3 => by
      rw [List.getElem?_set_ne hij] at h1 h3
      obtain ⟨a', us, ys, _, k1, k2, _⟩ := e.r.mine j d h1 hj
      rw [h3] at k1; cases k1
      exact ⟨h1, h3, by rw [k2]; simp⟩
    have at' : ∀ {d : Ly.D} {a : Addr}, (en.set i (some (.lst xs)))[i]? = some (some d) → (σ.set i (some (.ref p)))[i]? = some (some (.ref a)) → a = p := fun {d a} h1 h3 => by
      rw [List.getElem?_set, if_pos rfl] at h3
      split at h3
      · cases h3; rfl
      · cases h3
    by_cases hij : i = j
    · subst hij
      obtain ⟨k1, k2, k3⟩ := low hl hne h2 h4
      have := at' h1 h3
      subst this
      exact fun q => k3 (by rw [← q]; exact hn)
    · obtain ⟨k1, k2, k3⟩ := low hj hij h1 h3
      by_cases hil : i = l
      · subst hil
        have := at' h2 h4
        subst this
        exact fun q => k3 (by rw [q]; exact hn)
      · obtain ⟨l1, l2, l3⟩ := low hl hil h2 h4
        exact e.r.apart j l d d' a b hj hl hne k1 l1 k2 l2
  · by_cases hij : i = j
    · subst hij
      rw [List.getElem?_set, if_pos rfl] at h2
      split at h2
      · cases h2; exact pn
      · cases h2
    · rw [List.getElem?_set_ne hij] at h1 h2
      exact e.fresh j d a hj h1 h2
/-- an own list grows -/
theorem SEnv.app {i : Nat} {p : Addr} {xs ys : List Ly.D} {us : List V} (e : SEnv K mg own W0 W en σ) (R : Rep K mg W S) (hi : i ∈ own) (he : en[i]? = some (some (.lst xs))) (hs : σ[i]? = some (some (.ref p))) (hF : W.F p) (hρ : p ∉ W.ρ)
    (h : RepDs K mg W ys us) : SEnv K mg own W0 (W.at p (.lst us)) (en.set i (some (.lst ys))) σ := by
  have hne : W.H p ≠ none := R.dom p hF
  have x : ExtZ (fun a => a = p) W (W.at p (.lst us)) := ExtZ.at rfl hne
  have zok : ZOk (fun a => a = p) W := fun a q => .inl (q ▸ hF)
  refine ⟨⟨by rw [List.length_set, e.r.len], fun j d hd hj => ?_, fun j d hd hj => ?_, fun j l d d' a b hj hl hjl h1 h2 h3 h4 => ?_⟩, fun j d a hj h1 h2 => ?_⟩
  · have hij : i ≠ j := fun q => hj (q ▸ hi)
    rw [List.getElem?_set_ne hij] at hd
    obtain ⟨v, k1, k2⟩ := e.r.val j d hd hj
    exact ⟨v, k1, k2.extZ x zok R.sub⟩
  · by_cases hij : i = j
    · subst hij
      rw [List.getElem?_set, if_pos rfl] at hd
      split at hd
      · cases hd
        exact ⟨p, us, ys, rfl, hs, upd_same, hF, hρ, h.extZ x zok R.sub⟩
      · cases hd
    · rw [List.getElem?_set_ne hij] at hd
      obtain ⟨a, ws, zs, k0, k1, k2, k3, k4, k5⟩ := e.r.mine j d hd hj
      refine ⟨a, ws, zs, k0, k1, ?_, k3, k4, k5.extZ x zok R.sub⟩
      show upd W.H p _ a = _
      rw [upd_ne fun q => e.r.apart i j _ d p a hi hj hij he hd hs k1 q.symm]
      exact k2
  · have low : ∀ {j : Nat} {d : Ly.D}, (en.set i (some (.lst ys)))[j]? = some (some d) → ∃ d, en[j]? = some (some d) := fun {j d} h1 => by
      by_cases hij : i = j
      · subst hij; exact ⟨_, he⟩
      · rw [List.getElem?_set_ne hij] at h1; exact ⟨_, h1⟩
    obtain ⟨_, k1⟩ := low h1
    obtain ⟨_, k2⟩ := low h2
    exact e.r.apart j l _ _ a b hj hl hjl k1 k2 h3 h4
  · by_cases hij : i = j
    · subst hij
      exact e.fresh i _ a hj he h2
    · rw [List.getElem?_set_ne hij] at h1
      exact e.fresh j d a hj h1 h2
end

/-! ### readings -/
structure FromS (K : PySem.W.Frag) (mg : Str → Option Value) (own : List Nat) (W0 W : Wd) (S : Sto) (en : Env) (σ : L2.St) : Prop where
  R : Rep K mg W S
  x : Ext W0 W
  d0 : ∀ a, W0.F a → W0.H a ≠ none
  e : SEnv K mg own W0 W en σ
def tSt (K : PySem.W.Frag) (mg : Str → Option Value) (E : XK) (own : List Nat) (cf : CF) (s : Ly.St) : TS := fun D σ H => ∃ W0 W S en, W.H = H ∧ FromS K mg own W0 W S en σ ∧ OutS K mg E own W0 W D (evS cf s en S)
def tSs (K : PySem.W.Frag) (mg : Str → Option Value) (E : XK) (own : List Nat) (cf : CF) (s : List Ly.St) : TS := fun D σ H => ∃ W0 W S en, W.H = H ∧ FromS K mg own W0 W S en σ ∧ OutS K mg E own W0 W D (evSs cf s en S)
structure GoodS (CXx : CXT) (G : Glob) (P : Prog) (k : Nat) (N : List Str) (E : XK) (b : Bl) (X : Cx) : Prop where
  g : Good CXx G P k N E b X
  po : PassesOwn (model X.prog X.w) X.A X.env X.xe
  kind : X.env.blockKind = .function
section
variable {CXx : CXT} {G : Glob} {P : Prog} {k : Nat} {N : List Str} {E : XK} {b : Bl} {X : Cx} {own : List Nat}
abbrev SndS (own : List Nat) (P : Prog) (k : Nat) (E : XK) (X : Cx) (st : Stmt) (s : Ly.St) : Prop := PS X st (tSt X.K X.mg E own (callP P k) s)
/-! a block -/
theorem snd_sts {c : Stmt → Option Ly.St} (ih : ∀ st s, c st = some s → SndS own P k E X st s) : ∀ (sts : List Stmt) (ss : List Ly.St), cS.cArgsS c sts = some ss → PSs X sts (tSs X.K X.mg E own (callP P k) ss)
  | [], ss, h => by
    cases h
    refine pss_imp pss_nil fun D σ H q => ?_
    obtain ⟨W0, W, S, en, rfl, f, q⟩ := q
    rw [evSs] at q
    exact q W σ f.x (ExtS.refl W) f.R f.e
  | st :: sts, ss, h => by
    obtain ⟨a, h1, h⟩ := bind_some h
    obtain ⟨r, h2, h⟩ := map_some h
    subst h
    refine pss_imp (pss_cons (ih st a h1) (snd_sts ih sts r h2)) fun D σ H q => ?_
    obtain ⟨W0, W, S, en, rfl, f, q⟩ := q
    rw [evSs] at q
    refine ⟨W0, W, S, en, rfl, f, ?_⟩
    generalize evS (callP P k) a en S = w at q
    cases w with
    | ok z S1 =>
      obtain ⟨fl, en1⟩ := z
      cases fl with
      | nx => exact fun W' σ' x xs R e => ⟨W0, W', S1, en1, rfl, ⟨R, x, f.d0, e⟩, OutS.ext q xs⟩
      | ret d => exact q
      | brk => exact q
      | cnt => exact q
    | exc c fs S1 => exact q
    | bad => exact q
/-! small statements -/
theorem asg_of {t : Tg} {W0 W : Wd} {S : Sto} {en en' : Env} {σ : L2.St} {d : Ly.D} {v : V} {D : Ends} (f : FromS X.K X.mg own W0 W S en σ) (hd : RepD X.K X.mg W d v) (hp : t.put d en = some en') (q : OutS X.K X.mg E own W0 W D (.ok (.nx, en') S)) : tG X.K X.mg own t v σ W.H D.nx :=
  ⟨W, S, en, d, en', rfl, f.R, f.e.r, hd, hp, fun σ' r _ o => q W σ' f.x (ExtS.refl W) f.R (f.e.put r o)⟩
/-- target = value, by the value's reading -/
theorem tAsg_of {t : Tg} {ir : Ex} {D : Ends} {σ : L2.St} {H : Hp} (q : tSt X.K X.mg E own (callP P k) (.asg t ir) D σ H) : tE X.K X.mg E own (callP P k) false ir σ H fun v H1 => tG X.K X.mg own t v σ H1 D.nx := by
  obtain ⟨W0, W, S, en, rfl, f, q⟩ := q
  rw [evS] at q
  refine ⟨W, S, en, rfl, f.R, f.e.r, (q.bind f.x).mono fun d S1 W1 x1 R1 q1 v hv => ?_⟩
  split at q1
  · rename_i en' hp
    exact asg_of ⟨R1, f.x.trans x1, f.d0, f.e.ext x1 f.R.sub⟩ hv hp q1
  · exact q1.elim
theorem snd_asg (g : GoodS CXx G P k N E b X) {tg e : Expr} {t : Tg} {ir : Ex} {pos : Pos} (ht : PG X tg (tG X.K X.mg own t)) (ns : noStar tg = true) (he : Snd own P k E X false e ir) (hc : isComp e = false) (hw : swappedStores [tg] e X.env = pure none) : SndS own P k E X (.Assign [tg] e pos) (.asg t ir) := by
  refine ps_imp (ps_asg he.1 ht ?_ hw (by rw [asg_cons ns]; rfl)) fun D σ H q => tAsg_of q
  show swapsWith e (some tg) pos.line X.env = _
  unfold swapsWith
  cases e <;> first | rfl | cases hc
theorem snd_par2 (g : GoodS CXx G P k N E b X) {x y : Str} {px py tp vp pos : Pos} {kk k2 : Nat} {a c : Expr} {i j : Nat} {irs : List Ex} (hi : N[i]? = some x) (hj : N[j]? = some y) (hij : i ≠ j) (oi : i ∉ own) (oj : j ∉ own)
    (lx : X.env.scope.names.lookup x = some .local) (ly : X.env.scope.names.lookup y = some .local) (ha : PA X [a, c] (tEs X.K X.mg E own (callP P k) false irs))
    (hw : swappedStores [.Tuple [.Name x px, .Name y py] kk tp] (.Tuple [a, c] k2 vp) X.env = pure (some [x, y])) :
    SndS own P k E X (.Assign [.Tuple [.Name x px, .Name y py] kk tp] (.Tuple [a, c] k2 vp) pos) (.asg (.tup [.nm i, .nm j]) (.tup irs)) := by
  refine ps_imp (ps_par g.g.calm (by rw [g.g.hN]; exact g.g.nd) (by rw [g.g.hN]; exact hi) (by rw [g.g.hN]; exact hj) hij lx ly ha hw) fun D σ H q => ?_
  obtain ⟨W0, W, S, en, rfl, f, q⟩ := q
  rw [evS, evE] at q
  refine ⟨W, S, en, rfl, f.R, f.e.r, ((q.bind f.x).bind).mono fun ds S1 W1 x1 R1 q1 vs hvs => ?_⟩
  have f1 : FromS X.K X.mg own W0 W1 S1 en σ := ⟨R1, f.x.trans x1, f.d0, f.e.ext x1 f.R.sub⟩
  split at q1
  · have q1 := q1 W1 (Ext.refl W1) R1
    dsimp only at q1
    split at q1
    · rename_i en' hp
      rw [Tg.put] at hp
      have hvs : RepDs X.K X.mg W1 ds vs := hvs
      have hl := puts_len hp
      match ds, hl with
      | [d, e], _ =>
        cases hvs with
        | cons h1 r =>
          cases r with
          | cons h2 r =>
            cases r
            rw [Tg.puts, Tg.put, Option.bind_some, Tg.puts, Tg.put, Option.bind_some, Tg.puts] at hp
            cases hp
            refine ⟨_, _, rfl, q1 W1 _ f1.x (ExtS.refl W1) R1 (f1.e.put ((f1.e.r.put oi h1).put oj h2) fun l hl => ?_)⟩
            have e1 : i ≠ l := fun e => oi (e ▸ hl)
            have e2 : j ≠ l := fun e => oj (e ▸ hl)
            rw [List.getElem?_set_ne e2, List.getElem?_set_ne e1, List.getElem?_set_ne e2, List.getElem?_set_ne e1]
            exact ⟨rfl, rfl⟩
    · exact q1.elim
  · exact (q1 : False).elim
theorem snd_par3 (g : GoodS CXx G P k N E b X) {x y z : Str} {px py pz tp vp pos : Pos} {kk k2 : Nat} {a c c2 : Expr} {i j l : Nat} {irs : List Ex} (hi : N[i]? = some x) (hj : N[j]? = some y) (hl0 : N[l]? = some z) (hij : i ≠ j) (hil : i ≠ l) (hjl : j ≠ l) (oi : i ∉ own) (oj : j ∉ own) (ol : l ∉ own)
    (lx : X.env.scope.names.lookup x = some .local) (ly : X.env.scope.names.lookup y = some .local) (lz : X.env.scope.names.lookup z = some .local) (ha : PA X [a, c, c2] (tEs X.K X.mg E own (callP P k) false irs))
    (hw : swappedStores [.Tuple [.Name x px, .Name y py, .Name z pz] kk tp] (.Tuple [a, c, c2] k2 vp) X.env = pure (some [x, y, z])) :
    SndS own P k E X (.Assign [.Tuple [.Name x px, .Name y py, .Name z pz] kk tp] (.Tuple [a, c, c2] k2 vp) pos) (.asg (.tup [.nm i, .nm j, .nm l]) (.tup irs)) := by
  refine ps_imp (ps_par3 g.g.calm (by rw [g.g.hN]; exact g.g.nd) (by rw [g.g.hN]; exact hi) (by rw [g.g.hN]; exact hj) (by rw [g.g.hN]; exact hl0) hij hil hjl lx ly lz ha hw) fun D σ H q => ?_
  obtain ⟨W0, W, S, en, rfl, f, q⟩ := q
  rw [evS, evE] at q
  refine ⟨W, S, en, rfl, f.R, f.e.r, ((q.bind f.x).bind).mono fun ds S1 W1 x1 R1 q1 vs hvs => ?_⟩
  have f1 : FromS X.K X.mg own W0 W1 S1 en σ := ⟨R1, f.x.trans x1, f.d0, f.e.ext x1 f.R.sub⟩
  split at q1
  · have q1 := q1 W1 (Ext.refl W1) R1
    dsimp only at q1
    split at q1
    · rename_i en' hp
      rw [Tg.put] at hp
      have hvs : RepDs X.K X.mg W1 ds vs := hvs
      have hl := puts_len hp
      match ds, hl with
      | [d, e, e'], _ =>
        cases hvs with
        | cons h1 r =>
          cases r with
          | cons h2 r =>
            cases r with
            | cons h3 r =>
              cases r
              rw [Tg.puts, Tg.put, Option.bind_some, Tg.puts, Tg.put, Option.bind_some, Tg.puts, Tg.put, Option.bind_some, Tg.puts] at hp
              cases hp
              refine ⟨_, _, _, rfl, q1 W1 _ f1.x (ExtS.refl W1) R1 (f1.e.put (((f1.e.r.put oi h1).put oj h2).put ol h3) fun m hm => ?_)⟩
              have e1 : i ≠ m := fun e => oi (e ▸ hm)
              have e2 : j ≠ m := fun e => oj (e ▸ hm)
              have e3 : l ≠ m := fun e => ol (e ▸ hm)
              rw [List.getElem?_set_ne e3, List.getElem?_set_ne e2, List.getElem?_set_ne e1, List.getElem?_set_ne e3, List.getElem?_set_ne e2, List.getElem?_set_ne e1]
              exact ⟨rfl, rfl⟩
    · exact q1.elim
  · exact (q1 : False).elim
theorem snd_expr (g : GoodS CXx G P k N E b X) {e : Expr} {ir : Ex} {pos : Pos} (he : Snd own P k E X false e ir) (hc : isComp e = false) : SndS own P k E X (.Expr e pos) (.ex ir) := by
  refine ps_imp (ps_expr he.1 ?_) fun D σ H q => ?_
  · unfold swapsWith
    cases e <;> first | rfl | cases hc
  · obtain ⟨W0, W, S, en, rfl, f, q⟩ := q
    rw [evS] at q
    exact ⟨W, S, en, rfl, f.R, f.e.r, (q.bind f.x).mono fun d S1 W1 x1 R1 q1 v hv => q1 W1 σ (f.x.trans x1) (ExtS.refl W1) R1 (f.e.ext x1 f.R.sub)⟩
theorem snd_ret (g : GoodS CXx G P k N E b X) {e : Expr} {ir : Ex} {pos : Pos} (he : Snd own P k E X false e ir) : SndS own P k E X (.Return (some e) pos) (.ret ir) := by
  refine ps_imp (ps_ret he.1) fun D σ H q => ?_
  obtain ⟨W0, W, S, en, rfl, f, q⟩ := q
  rw [evS] at q
  exact ⟨W, S, en, rfl, f.R, f.e.r, (q.bind f.x).mono fun d S1 W1 x1 R1 q1 v hv => q1 W1 (f.x.trans x1) R1 v hv⟩
/-- an own list is given away: it changes no more -/
theorem snd_retOwn (g : GoodS CXx G P k N E b X) {x : Str} {i : Nat} {p pos : Pos} (hp : plainName x = true) (hv : Ly.vis b.sc x = true) (hi : slot N x = some i) (ho : i ∈ own) : SndS own P k E X (.Return (some (.Name x p)) pos) (.ret (.loc i)) := by
  obtain ⟨p1, p2, p3⟩ := plain_inv hp
  refine ps_imp (ps_ret (pe_var (by rw [g.g.hN]; exact slot_get hi) (g.g.vis hv) p1 p2)) fun D σ H q => ?_
  obtain ⟨W0, W, S, en, rfl, f, q⟩ := q
  rw [evS, evE] at q
  split at q
  · rename_i d hd
    obtain ⟨a, vs, xs, rfl, h1, h2, h3, h4, h5⟩ := f.e.r.mine i d hd ho
    refine ⟨.ref a, h1, ?_⟩
    have ha := f.e.fresh i _ a ho hd h1
    have x : Ext W0 (W.less a) := ⟨f.x.keep, f.x.pre, fun c hc => ⟨f.x.fsub c hc, fun e => f.d0 c hc (by rw [e]; exact ha)⟩, fun c hc => f.x.fnew c hc.1, f.x.dom, f.x.rnew⟩
    exact q (W.less a) x (f.R.less h4) (.ref a) (.lst (.inl ⟨.inl h2, fun z => z.2 rfl⟩) h5.less)
  · exact q.elim
theorem snd_if_ (g : GoodS CXx G P k N E b X) {c : Expr} {x y : List Stmt} {ic : Ex} {ix iy : List Ly.St} {pos : Pos} (hc : Snd own P k E X false c ic) (hx : PSs X x (tSs X.K X.mg E own (callP P k) ix)) (hy : PSs X y (tSs X.K X.mg E own (callP P k) iy)) : SndS own P k E X (.If c x y pos) (.ite ic ix iy) := by
  refine ps_imp (ps_if hc.2 hx hy) fun D σ H q => ?_
  obtain ⟨W0, W, S, en, rfl, f, q⟩ := q
  rw [evS] at q
  refine ⟨W, S, en, rfl, f.R, f.e.r, (q.bind f.x).mono fun d S1 W1 x1 R1 q1 => ?_⟩
  have f1 : FromS X.K X.mg own W0 W1 S1 en σ := ⟨R1, f.x.trans x1, f.d0, f.e.ext x1 f.R.sub⟩
  split at q1
  · exact ⟨true, rfl, iteT ⟨W0, W1, S1, en, rfl, f1, q1⟩⟩
  · exact ⟨false, rfl, iteF ⟨W0, W1, S1, en, rfl, f1, q1⟩⟩
  · exact q1.elim
end
end Ly
/-! Ly: own lists, objects of the store, loops. -/
namespace Ly
open PySem PySem.Spec PyProof.Rows L2 PySem.SeqAt
section
variable {CXx : CXT} {G : Glob} {P : Prog} {k : Nat} {N : List Str} {E : XK} {b : Bl} {X : Cx} {own : List Nat}
/-! ### own lists -/
theorem snd_own (g : GoodS CXx G P k N E b X) {x : Str} {es : List Expr} {irs : List Ex} {i : Nat} {p lp pos : Pos} (hl : Ly.loc b x = true) (hi : slot N x = some i) (ho : i ∈ own) (ha : PA X es (tEs X.K X.mg E own (callP P k) false irs)) :
    SndS own P k E X (.Assign [.Name x p] (.List es lp) pos) (.asg (.nm i) (.lst irs)) := by
  obtain ⟨l1, l2⟩ := g.g.loc hl
  refine ps_imp (ps_set (by rw [g.g.hN]; exact g.g.nd) (by rw [g.g.hN]; exact slot_get hi) l1 (pe_lst ha) rfl l2) fun D σ H q => ?_
  obtain ⟨W0, W, S, en, rfl, f, q⟩ := q
  rw [evS, evE] at q
  refine ⟨W, S, en, rfl, f.R, f.e.r, ((q.bind f.x).bind).mono fun ds S1 W1 x1 R1 q1 vs hvs => ?_⟩
  have hvs : RepDs X.K X.mg W1 ds vs := hvs
  split at q1
  · rename_i hz
    have q1 := q1 W1 (Ext.refl W1) R1
    dsimp only at q1
    rw [Tg.put] at q1
    refine ⟨by rw [← hvs.length, ← line_eq]; exact hz, fun a hn => ?_⟩
    have f1 : FromS X.K X.mg own W0 W1 S1 en σ := ⟨R1, f.x.trans x1, f.d0, f.e.ext x1 f.R.sub⟩
    have xm : Ext W1 (W1.more a (.lst vs)) := Ext.more hn
    exact q1 (W1.more a (.lst vs)) _ (f1.x.trans xm) xm.s (R1.more hn) (f1.e.mkOwn R1 f1.x ho hn hvs)
  · exact (q1 : False).elim
theorem few_one {e : Expr} {pos : Pos} {env : PySem.Env} (ns : noStar e = true) : ∀ y ∈ [e], noStar y = true := fun y hy => by rw [List.mem_singleton.mp hy]; exact ns
theorem snd_app (g : GoodS CXx G P k N E b X) {x : Str} {e : Expr} {ir : Ex} {i : Nat} {p apos cpos pos : Pos} (hp : plainName x = true) (hv : Ly.vis b.sc x = true) (hi : slot N x = some i) (ho : i ∈ own) (hl : oneLine apos cpos = true) (ns : noStar e = true) (he : Snd own P k E X false e ir) :
    SndS own P k E X (.Expr (.Call (.Attribute (.Name x p) ("append" : Str) apos) [e] [] cpos) pos) (.app i ir) := by
  obtain ⟨p1, p2, p3⟩ := plain_inv hp
  have pa : PA X [e] (tCons (tE X.K X.mg E own (callP P k) false ir) tNil) := pa_cons he.1 pa_nil (star_cons ns)
  have po : PE X (.Name x p) (tVar i) := pe_var (by rw [g.g.hN]; exact slot_get hi) (g.g.vis hv) p1 p2
  refine ps_imp (ps_expr (pe_me po pa rfl hl (fun y hy => by rw [List.mem_singleton.mp hy]; exact ns) (by show 1 < 20; omega))) fun D σ H q => ?_
  obtain ⟨W0, W, S, en, rfl, f, q⟩ := q
  rw [evS] at q
  split at q
  · rename_i xs hd
    obtain ⟨a, vs, xs', e0, h1, h2, h3, h4, h5⟩ := f.e.r.mine i _ hd ho
    cases e0
    refine ⟨.ref a, h1, "list", "list.append", _, PySem.F.plainAttrs_list, PySem.F.slot_list_append, PySem.F.type_list_append, mt_append, .inl ⟨rfl, vs, .inl (.inl h2)⟩, ?_⟩
    refine ⟨W, S, en, rfl, f.R, f.e.r, (q.bind f.x).mono fun d S1 W1 x1 R1 q1 v hv => ?_⟩
    have f1 : FromS X.K X.mg own W0 W1 S1 en σ := ⟨R1, f.x.trans x1, f.d0, f.e.ext x1 f.R.sub⟩
    have hv : RepD X.K X.mg W1 d v := hv
    split at q1
    · rename_i hz
      have k2 : W1.H a = some (.lst vs) := x1.keep _ _ h2 h4
      have k3 : W1.F a := x1.fsub _ h3
      have k4 : a ∉ W1.ρ := fun z => by
        rcases x1.rnew _ z with z | z
        · exact h4 z
        · rw [h2] at z; cases z
      have r1 := h5.ext x1 f.R.sub
      have hs := f1.e.app R1 ho hd h1 k3 k4 (r1.append (.cons hv .nil))
      have ha0 := f.e.fresh i _ a ho hd h1
      have xa : ExtS W1 (W1.at a (.lst (vs ++ [v]))) := ExtZ.at k3 (by rw [k2]; simp)
      have x0 : Ext W0 (W1.at a (.lst (vs ++ [v]))) := ⟨fun c o hc n => by
          show upd W1.H a _ c = _
          rw [upd_ne fun e => by rw [e, ha0] at hc; cases hc]
          exact f1.x.keep c o hc n, f1.x.pre, f1.x.fsub, f1.x.fnew, fun c hc => xa.dom c (f1.x.dom c hc), f1.x.rnew⟩
      exact ⟨a, vs, v, rfl, rfl, k2, by rw [← r1.length, ← line_eq]; exact hz, q1 _ σ x0 xa (R1.at k3 k4) hs⟩
    · exact q1.elim
  · exact q.elim
/-! ### objects of the store -/
theorem nodup_at : ∀ {l : List Addr} {n m : Nat} {a : Addr}, l.Nodup → l[n]? = some a → l[m]? = some a → n = m
  | [], _, _, _, _, h, _ => by simp at h
  | x :: l, 0, 0, _, _, _, _ => rfl
  | x :: l, 0, m + 1, a, hn, h1, h2 => by
    simp at h1 h2
    subst h1
    exact absurd (List.mem_of_getElem? h2) (List.nodup_cons.mp hn).1
  | x :: l, n + 1, 0, a, hn, h1, h2 => by
    simp at h1 h2
    subst h2
    exact absurd (List.mem_of_getElem? h1) (List.nodup_cons.mp hn).1
  | x :: l, n + 1, m + 1, a, hn, h1, h2 => by
    simp at h1 h2
    rw [nodup_at (List.nodup_cons.mp hn).2 h1 h2]
theorem Rep.setObj {K : PySem.W.Frag} {mg : Str → Option Value} {W : Wd} {S : Sto} {n : Nat} {a : Addr} {xs ys : List Ly.D} {us : List V} (R : Rep K mg W S) (h : W.ρ[n]? = some a) (r : RepDs K mg W ys us) : Rep K mg (W.at a (.lst us)) (S.set n (.lst ys)) where
  len := by rw [List.length_set]; exact R.len
  nd := R.nd
  sub := R.sub
  dom := fun c hc => by
    show upd W.H a _ c ≠ none
    by_cases e : c = a
    · subst e; rw [upd_same]; simp
    · rw [upd_ne e]; exact R.dom c hc
  obj := fun m mo c h1 h2 => by
    have hF : W.F a := R.sub a (List.mem_of_getElem? h)
    have x : ExtZ (fun q => q = a) W (W.at a (.lst us)) := ExtZ.at rfl (R.dom a hF)
    have z : ZOk (fun q => q = a) W := fun q e => .inl (by rw [e]; exact hF)
    by_cases hm : n = m
    · subst hm
      rw [show (W.at a (.lst us)).ρ = W.ρ from rfl, h] at h2
      cases h2
      rw [List.getElem?_set, if_pos rfl] at h1
      split at h1
      · cases h1
        exact ⟨us, upd_same, r.extZ x z R.sub⟩
      · cases h1
    · rw [List.getElem?_set_ne hm] at h1
      have hne : c ≠ a := fun e => by
        subst e
        exact hm (nodup_at R.nd h h2)
      cases mo with
      | lst zs =>
        obtain ⟨ws, q1, q2⟩ := R.obj m _ c h1 h2
        exact ⟨ws, by show upd W.H a _ c = _; rw [upd_ne hne]; exact q1, q2.extZ x z R.sub⟩
      | dct kvs => exact R.obj m _ c h1 h2
      | ins c' fs => exact R.obj m _ c h1 h2
      | dead => trivial
theorem Ext.setObj {W : Wd} {a : Addr} {o : HO} (h : a ∈ W.ρ) (hn : W.H a ≠ none) : Ext W (W.at a o) where
  keep := fun c u hc n => by
    show upd W.H a o c = _
    rw [upd_ne fun e => n (by rw [e]; exact h)]
    exact hc
  pre := List.prefix_refl _
  fsub := fun _ h => h
  fnew := fun _ h => .inl h
  dom := fun c hc => by
    show upd W.H a o c ≠ none
    by_cases e : c = a
    · subst e; rw [upd_same]; simp
    · rw [upd_ne e]; exact hc
  rnew := fun _ h => .inl h
theorem snd_set (g : GoodS CXx G P k N E b X) {o i v : Expr} {io ii iv : Ex} {sp pos : Pos} (h1 : Snd own P k E X false o io) (h2 : Snd own P k E X false i ii) (h3 : Snd own P k E X false v iv) (hc : isComp v = false) (hsl : ∀ lo hi st pos, i ≠ .Slice lo hi st pos) :
    SndS own P k E X (.Assign [.Subscript o i sp] v pos) (.setR io ii iv) := by
  refine ps_imp (ps_asg h3.1 (pg_sub h1.1 h2.1 set_list (by intro v; cases i <;> first | rfl | exact absurd rfl (hsl _ _ _ _))) ?_ ?_) fun D σ H q => ?_
  · show swapsWith v (some (.Subscript o i sp)) pos.line X.env = _
    unfold swapsWith
    cases v <;> first | rfl | cases hc
  · unfold swappedStores
    cases v <;> rfl
  · obtain ⟨W0, W, S, en, rfl, f, q⟩ := q
    rw [evS] at q
    refine ⟨W, S, en, rfl, f.R, f.e.r, (q.bind f.x).mono fun dv S1 W1 x1 R1 q1 vv hv => ?_⟩
    have f1 : FromS X.K X.mg own W0 W1 S1 en σ := ⟨R1, f.x.trans x1, f.d0, f.e.ext x1 f.R.sub⟩
    refine ⟨W1, S1, en, rfl, R1, f1.e.r, (q1.bind f1.x).mono fun d2 S2 W2 x2 R2 q2 v2 hv2 => ?_⟩
    have f2 : FromS X.K X.mg own W0 W2 S2 en σ := ⟨R2, f1.x.trans x2, f.d0, f1.e.ext x2 f1.R.sub⟩
    refine ⟨W2, S2, en, rfl, R2, f2.e.r, (q2.bind f2.x).mono fun d3 S3 W3 x3 R3 q3 v3 hv3 => ?_⟩
    have f3 : FromS X.K X.mg own W0 W3 S3 en σ := ⟨R3, f2.x.trans x3, f.d0, f2.e.ext x3 f2.R.sub⟩
    have r1 : RepD X.K X.mg W3 dv vv := (RepD.ext x3 R2.sub (RepD.ext x2 R1.sub hv))
    have r2 : RepD X.K X.mg W3 d2 v2 := RepD.ext x3 R2.sub hv2
    have r3 : RepD X.K X.mg W3 d3 v3 := hv3
    split at q3
    · rename_i S' e
      unfold setRef at e
      split at e
      · rename_i n
        split at e
        · rename_i xs i e1
          obtain ⟨j, ej, rfl⟩ := map_some e
          cases r2 with
          | ref hr =>
            rename_i a
            obtain ⟨vs, hH, rv⟩ := R3.obj n _ a e1 hr
            obtain rfl := r3.int_inv
            have hF : W3.F a := R3.sub a (List.mem_of_getElem? hr)
            have xs' : Ext W3 (W3.at a (.lst (vs.set j vv))) := Ext.setObj (List.mem_of_getElem? hr) (R3.dom a hF)
            refine ⟨a, vs, i, j, rfl, rfl, hH, ?_, ?_⟩
            · rw [← rv.length]
              exact ej
            · exact q3 _ σ (f3.x.trans xs') xs'.s (R3.setObj (xs := xs) hr (rv.set r1 j)) (f3.e.ext xs' R3.sub)
        · cases e
      · cases e
    · exact q3.elim
/-- a list display that is given away and may change -/
theorem snd_new (g : GoodS CXx G P k N E b X) {es : List Expr} {irs : List Ex} {lp pos : Pos} (ha : PA X es (tEs X.K X.mg E own (callP P k) false irs)) : SndS own P k E X (.Return (some (.List es lp)) pos) (.ret (.new irs)) := by
  refine ps_imp (ps_ret (pe_lst ha)) fun D σ H q => ?_
  obtain ⟨W0, W, S, en, rfl, f, q⟩ := q
  rw [evS, evE] at q
  refine ⟨W, S, en, rfl, f.R, f.e.r, ((q.bind f.x).bind).mono fun ds S1 W1 x1 R1 q1 vs hvs => ?_⟩
  have f1 : FromS X.K X.mg own W0 W1 S1 en σ := ⟨R1, f.x.trans x1, f.d0, f.e.ext x1 f.R.sub⟩
  have hvs : RepDs X.K X.mg W1 ds vs := hvs
  split at q1
  · rename_i hz
    refine ⟨by rw [← hvs.length, ← line_eq]; exact hz, fun a hn => ?_⟩
    have hρ : a ∉ W1.ρ := fun h => R1.dom a (R1.sub a h) hn
    let W2 : Wd := ⟨W1.ρ ++ [a], fun c => W1.F c ∨ c = a, upd W1.H a (.lst vs)⟩
    have x2 : Ext W1 W2 := {
      keep := fun c u hc n => by
        show upd W1.H a _ c = _
        rw [upd_ne fun e => by rw [e, hn] at hc; cases hc]
        exact hc
      pre := ⟨[a], rfl⟩
      fsub := fun c h => .inl h
      fnew := fun c h => h.elim .inl fun e => .inr (by rw [e]; exact hn)
      dom := fun c hc => by
        show upd W1.H a _ c ≠ none
        by_cases e : c = a
        · subst e; rw [upd_same]; simp
        · rw [upd_ne e]; exact hc
      rnew := fun c h => by
        rcases List.mem_append.mp h with h | h
        · exact .inl h
        · rw [List.mem_singleton.mp h]; exact .inr hn }
    have R2 : Rep X.K X.mg W2 (S1 ++ [.lst ds]) := {
      len := by show (W1.ρ ++ [a]).length = _; rw [List.length_append, List.length_append, R1.len]; rfl
      nd := by
        show (W1.ρ ++ [a]).Nodup
        rw [List.nodup_append]
        refine ⟨R1.nd, by simp, fun c hc d hd e => ?_⟩
        rw [List.mem_singleton.mp hd] at e
        exact hρ (e ▸ hc)
      sub := fun c h => by
        rcases List.mem_append.mp h with h | h
        · exact .inl (R1.sub c h)
        · exact .inr (List.mem_singleton.mp h)
      dom := fun c hc => by
        show upd W1.H a _ c ≠ none
        by_cases e : c = a
        · subst e; rw [upd_same]; simp
        · rw [upd_ne e]; exact R1.dom c (hc.resolve_right e)
      obj := fun n mo c h1 h2 => by
        have h2 : (W1.ρ ++ [a])[n]? = some c := h2
        by_cases hl : n < S1.length
        · rw [List.getElem?_append_left hl] at h1
          rw [List.getElem?_append_left (by rw [R1.len]; exact hl)] at h2
          refine RepO.ext x2 R1.sub (fun u hu => ?_) (R1.obj n mo c h1 h2)
          show upd W1.H a _ c = _
          rw [upd_ne fun e => hρ (by rw [← e]; exact List.mem_of_getElem? h2)]
          exact hu
        · rw [List.getElem?_append_right (by omega)] at h1
          rw [List.getElem?_append_right (by rw [R1.len]; omega), R1.len] at h2
          have e : n - S1.length = 0 := by
            cases q : n - S1.length with
            | zero => rfl
            | succ m => rw [q] at h1; simp at h1
          rw [e] at h1 h2
          simp at h1 h2
          subst h1 h2
          exact ⟨vs, upd_same, hvs.ext x2 R1.sub⟩ }
    refine q1 W2 x2 R2 W2 (f1.x.trans x2) R2 (.ref a) (.ref ?_)
    show (W1.ρ ++ [a])[S1.length]? = some a
    rw [← R1.len, List.getElem?_append_right (Nat.le_refl _)]
    simp
  · exact (q1 : False).elim
/-! ### loops -/
theorem snd_while (g : GoodS CXx G P k N E b X) {c : Expr} {body : List Stmt} {ic : Ex} {ib : List Ly.St} {pos : Pos} (hc : Snd own P k E X false c ic) (hb : PSs X body (tSs X.K X.mg E own (callP P k) ib)) : SndS own P k E X (.While c body [] pos) (.while_ ic ib) := by
  refine ps_imp (ps_while g.po hc.2 hb) fun D σ H q => ?_
  obtain ⟨W0, W, S, en, rfl, f, q⟩ := q
  rw [evS] at q
  generalize fuel = n at q
  refine ⟨fun m σ H => ∃ W S en, W.H = H ∧ FromS X.K X.mg own W0 W S en σ ∧ OutS X.K X.mg E own W0 W D (whileLoop (fun en S => evE (callP P k) ic en S) (fun en S => evSs (callP P k) ib en S) m en S), ⟨n, W, S, en, rfl, f, q⟩, ?_⟩
  clear f q W S en
  rintro m σ H ⟨W, S, en, rfl, f, q⟩
  cases m with
  | zero => exact (show False from q).elim
  | succ m =>
    rw [whileLoop] at q
    refine ⟨W, S, en, rfl, f.R, f.e.r, ?_⟩
    obtain ⟨r, hr⟩ : ∃ r, evE (callP P k) ic en S = r := ⟨_, rfl⟩
    rw [hr] at q ⊢
    clear hr
    cases r with
    | bad => exact q.elim
    | exc c' fs S' => exact fun W' cls od x R q' => q W' cls od (f.x.trans x) R q'
    | ok d S1 =>
      intro W1 x1 R1
      have f1 : FromS X.K X.mg own W0 W1 S1 en σ := ⟨R1, f.x.trans x1, f.d0, f.e.ext x1 f.R.sub⟩
      have q := OutS.ext q x1.s
      cases d <;> first | exact (show False from q).elim | skip
      rename_i bb _
      refine ⟨bb, rfl, ?_⟩
      cases bb with
      | false => exact iteF (q W1 σ f1.x (ExtS.refl W1) R1 f1.e)
      | true =>
        refine iteT ⟨fun σ' H' => ∃ W S en, W.H = H' ∧ FromS X.K X.mg own W0 W S en σ' ∧ OutS X.K X.mg E own W0 W D (whileLoop (fun en S => evE (callP P k) ic en S) (fun en S => evSs (callP P k) ib en S) m en S), fun σ' H' h => ⟨m, Nat.lt_succ_self _, h⟩, W0, W1, S1, en, rfl, f1, ?_⟩
        have q : OutS X.K X.mg E own W0 W1 D (match evSs (callP P k) ib en S1 with
          | .ok (.nx, en') S'' => whileLoop (fun en S => evE (callP P k) ic en S) (fun en S => evSs (callP P k) ib en S) m en' S''
          | .ok (.cnt, en') S'' => whileLoop (fun en S => evE (callP P k) ic en S) (fun en S => evSs (callP P k) ib en S) m en' S''
          | .ok (.brk, en') S'' => .ok (.nx, en') S''
          | .ok (.ret d, en') S'' => .ok (.ret d, en') S''
          | .exc c fs S'' => .exc c fs S''
          | .bad => .bad) := q
        obtain ⟨r, hr⟩ : ∃ r, evSs (callP P k) ib en S1 = r := ⟨_, rfl⟩
        rw [hr] at q ⊢
        clear hr
        cases r with
        | bad => exact q.elim
        | exc c' fs S' => exact q
        | ok z S2 =>
          obtain ⟨fl, en2⟩ := z
          cases fl with
          | nx => exact fun W' σ' x xs R e => ⟨W', S2, en2, rfl, ⟨R, x, f.d0, e⟩, OutS.ext q xs⟩
          | ret d => exact q
          | brk => exact q
          | cnt => exact fun W' σ' x xs R e => ⟨W', S2, en2, rfl, ⟨R, x, f.d0, e⟩, OutS.ext q xs⟩
theorem snd_for (g : GoodS CXx G P k N E b X) {tg iter : Expr} {body : List Stmt} {t : Tg} {kk : Ik} {es : List Ex} {ib : List Ly.St} {pos : Pos} (hi : PI X tg iter (tI X.K X.mg E own (callP P k) false kk es)) (hs : ∀ x, foldedSetIterable iter X.env x = pure x)
    (ht : PG X tg (tG X.K X.mg own t)) (hb : PSs X body (tSs X.K X.mg E own (callP P k) ib)) : SndS own P k E X (.For tg iter body [] pos) (.for_ t kk es ib) := by
  refine ps_imp (ps_for g.po g.g.calm hi ht hb hs) fun D σ H q => ?_
  obtain ⟨W0, W, S, en, rfl, f, q⟩ := q
  rw [evS] at q
  refine ⟨W, S, en, rfl, f.R, f.e.r, (q.bind f.x).mono fun ds S1 W1 x1 R1 q1 => ?_⟩
  have f1 : FromS X.K X.mg own W0 W1 S1 en σ := ⟨R1, f.x.trans x1, f.d0, f.e.ext x1 f.R.sub⟩
  split at q1
  · exact q1.elim
  rename_i xs hw
  refine ⟨xs, hw, fun J hJ => ?_⟩
  have wk := hJ W1.F (fun a h => h)
  generalize hf : (fun (x : Ly.D) (en : Env) (S : Sto) => match t.put x en with
      | none => (Re.bad : Re (Fl × Env))
      | some en' => evSs (callP P k) ib en' S) = fb at q1
  let Iv : Nat → L2.St → Hp → Prop := fun i σ H => i ≤ xs.length ∧ ∃ W' S' en', W'.H = H ∧ FromS X.K X.mg own W0 W' S' en' σ ∧ ExtS W1 W' ∧ still S' (watch S1 ds) = true ∧ OutS X.K X.mg E own W0 W' D (forLoop fb (watch S1 ds) (xs.drop i) en' S')
  refine ⟨fun i m σ H => m = xs.length - i ∧ Iv i σ H, ⟨xs.length, by simp, Nat.zero_le _, W1, S1, en, rfl, f1, ExtS.refl W1, still_watch ds, q1⟩, ?_⟩
  rintro i m σ H ⟨rfl, hi, W', S', en', rfl, f', xx, st, q⟩
  by_cases hlt : i < xs.length
  · refine .inr ⟨wk.go i W' S' hlt xx f'.R st, fun σ H => Iv (i + 1) σ H, fun σ' H' h => ⟨_, by omega, rfl, h⟩, fun x H' y => ?_⟩
    obtain ⟨W2, d, rfl, x2, R2, hd, rd⟩ := wk.yld i W' S' x H' hlt xx f'.R st y
    have ed : xs.drop i = d :: xs.drop (i + 1) := by
      obtain ⟨hlt', e⟩ := List.getElem?_eq_some_iff.mp hd
      rw [List.drop_eq_getElem_cons hlt', e]
    rw [ed, forLoop, ← hf] at q
    have f2 : FromS X.K X.mg own W0 W2 S' en' σ := ⟨R2, f'.x.trans x2, f'.d0, f'.e.ext x2 f'.R.sub⟩
    have q := OutS.ext q x2.s
    dsimp only at q
    cases hp : t.put d en' with
    | none => rw [hp] at q; exact q.elim
    | some en2 =>
      rw [hp] at q
      refine ⟨W2, S', en', d, en2, rfl, R2, f2.e.r, rd, hp, fun σ2 r2 _ o2 => ?_⟩
      have f3 : FromS X.K X.mg own W0 W2 S' en2 σ2 := ⟨R2, f2.x, f2.d0, f2.e.put r2 o2⟩
      refine ⟨W0, W2, S', en2, rfl, f3, ?_⟩
      dsimp only at q
      obtain ⟨r, hr⟩ : ∃ r, evSs (callP P k) ib en2 S' = r := ⟨_, rfl⟩
      rw [hr] at q ⊢
      clear hr
      have again : ∀ {S2 : Sto} {en3 : Env}, (OutS X.K X.mg E own W0 W2 D (if still S2 (watch S1 ds) = true then forLoop (fun (x : Ly.D) (en : Env) (S : Sto) => match t.put x en with | none => (Re.bad : Re (Fl × Env)) | some en' => evSs (callP P k) ib en' S) (watch S1 ds) (xs.drop (i + 1)) en3 S2 else .bad)) →
          ∀ W' σ', Ext W0 W' → ExtS W2 W' → Rep X.K X.mg W' S2 → SEnv X.K X.mg own W0 W' en3 σ' → Iv (i + 1) σ' W'.H := fun {S2 en3} q W' σ' x xs R e => by
        split at q
        · rename_i st2
          rw [hf] at q
          exact ⟨by omega, W', S2, en3, rfl, ⟨R, x, f'.d0, e⟩, ExtS.trans xx (ExtS.trans x2.s xs), st2, OutS.ext q xs⟩
        · exact q.elim
      cases r with
      | bad => exact q.elim
      | exc c' fs S' => exact q
      | ok z S2 =>
        obtain ⟨fl, en3⟩ := z
        cases fl with
        | nx => exact again q
        | ret d => exact q
        | brk => exact q
        | cnt => exact again q
  · have ei : i = xs.length := by omega
    subst ei
    refine .inl ⟨wk.stop W' S' xx f'.R st, ?_⟩
    rw [List.drop_length, forLoop] at q
    exact q W' σ f'.x (ExtS.refl W') f'.R f'.e
end
end Ly
/-! Ly: all statements; defs; the module. -/
namespace Ly
open PySem PySem.Spec PyProof.Rows L2 PySem.SeqAt
section
variable {CXx : CXT} {G : Glob} {P : Prog} {k : Nat} {N : List Str} {own : List Nat} {E : XK} {b : Bl} {X : Cx} {mkr : Bool}
/-- a comprehension's parts -/
theorem comp_parts (g : Good CXx G P k N E b X) {n : Nat} {ob : Bool} {elt tg iter : Expr} {ifs : List Expr} {scope : Scope} {pos : Pos} {ir : Ex} (h : cE G N own (n + 1) ob b (.ListComp elt [⟨tg, iter, ifs, 0⟩] scope pos) = some ir) :
    ∃ t kk es c e, ir = .comp ((ownOf N scope).map (·.2)) t kk es c e ∧ (∀ i ∈ t.slots, i ∈ (ownOf N scope).map (·.2)) ∧ BlkOk X.N X.env.scope scope (ownOf N scope) ∧ PI X tg iter (tI X.K X.mg E own (callP P k) true kk es) ∧ (∀ x, foldedSetIterable iter X.env x = pure x) ∧
      (∀ (s : Shared) (H : Hp) (C : Addr) (cl : List (Str × Addr)) (fp : List Addr), PG (X.blk s H scope (compEnvC scope cl C X.env) fp) tg (tG X.K X.mg own t)) ∧
      (∀ (s : Shared) (H : Hp) (C : Addr) (cl : List (Str × Addr)) (fp : List Addr), PTs (X.blk s H scope (compEnvC scope cl C X.env) fp) ifs (tCd X.K X.mg E0 own (callP P k) c)) ∧
      (∀ (s : Shared) (H : Hp) (C : Addr) (cl : List (Str × Addr)) (fp : List Addr), PE (X.blk s H scope (compEnvC scope cl C X.env) fp) elt (tE X.K X.mg E0 own (callP P k) false e)) := by
  have h : (if blkC N b.sc _ _ then _ else none) = some ir := h
  split at h
  · rename_i hk
    obtain ⟨t, h1, h⟩ := bind_some h
    split at h
    · rename_i hsl
      obtain ⟨it, h2, h⟩ := bind_some h
      obtain ⟨c, h3, h⟩ := bind_some h
      obtain ⟨e, h4, h⟩ := map_some h
      subst h
      obtain ⟨kk, es⟩ := it
      have hi := snd_iter (E := E) (own := own) (P := P) (k := k) g (st := fun ob e ir h => cE_star h) (ih := fun ob e ir h => sound_E n E ob b X e ir g h) h2
      have gb := fun s H C cl fp => g.blk scope s H C cl fp
      refine ⟨t, kk, es, c, e, rfl, fun i hi => of_decide_eq_true (List.all_eq_true.mp hsl i hi), by rw [g.hN, g.sc]; exact blkOk_by hk, hi.1, hi.2, fun s H C cl fp => snd_tg (gb s H C cl fp) 20 _ _ h1, fun s H C cl fp => ?_,
        fun s H C cl fp => (sound_E n E0 false _ _ _ _ (gb s H C cl fp) h4).1⟩
      split at h3
      · cases h3
        exact snd_if (c := none) (.inl ⟨rfl, rfl⟩)
      · obtain ⟨a, e, rfl⟩ := map_some h3
        exact snd_if (c := some _) (.inr ⟨_, _, rfl, rfl, sound_E n E0 false _ _ _ _ (gb s H C cl fp) e⟩)
      · cases h3
    · cases h
  · cases h
/-- name = [..] -/
theorem snd_setLc (g : GoodS CXx G P k N E b X) {n : Nat} {elt tg iter : Expr} {ifs : List Expr} {scope : Scope} {x : Str} {p cpos pos : Pos} {ir : Ex} {i : Nat} (h : cE G N own (n + 1) false b (.ListComp elt [⟨tg, iter, ifs, 0⟩] scope cpos) = some ir)
    (hi : slot N x = some i) (ho : i ∉ own) (hx : b.sc.names.lookup x = some .local) (hl : (p.line == cpos.line) = true) (hn : (scope.names.any fun (n, k) => n == x && (k == .local || k == .cell)) = false) :
    SndS own P k E X (.Assign [.Name x p] (.ListComp elt [⟨tg, iter, ifs, 0⟩] scope cpos) pos) (.asg (.nm i) ir) := by
  obtain ⟨t, kk, es, c, e, rfl, hsl, ok, hpi, hfs, hg, ht, he⟩ := comp_parts g.g h
  refine ps_imp (ps_setLc g.g.calm (by rw [g.g.hN]; exact g.g.nd) (by rw [g.g.hN]; exact slot_get hi) (by rw [g.g.sc]; exact hx) ?_ hpi ok hg ht he hfs) fun D σ H q => ?_
  · simp only [swapsWith]
    have hk : X.env.kindOf x = some .local := by
      show X.env.scope.names.lookup x = _
      rw [g.g.sc]; exact hx
    rw [hk, g.kind, hn]
    rw [show (Expr.ListComp elt [⟨tg, iter, ifs, 0⟩] scope cpos).pos = cpos from rfl, hl]
    rfl
  · refine tLc_of (ob := false) hsl ?_
    obtain ⟨W, S, en, e1, R, rr, q⟩ := tAsg_of q
    refine ⟨W, S, en, e1, R, rr, q.mono fun d S1 W1 x1 R1 q1 v hv => ?_⟩
    obtain ⟨W2, S2, en2, d2, en', e2, R2, r2, hd, hp, q2⟩ := q1 v hv
    rw [Tg.put] at hp
    cases hp
    rw [← e2]
    rw [← e2] at q2
    refine q2 _ (r2.put ho hd) (fun vs hvs => wipe_set (hvs i (by simp [Tg.slots]))) fun j hj => ?_
    have hij : i ≠ j := fun e => ho (e ▸ hj)
    exact ⟨List.getElem?_set_ne hij, List.getElem?_set_ne hij⟩
theorem cG_name {n : Nat} {x : Str} {p : Pos} {i : Nat} (hl : Ly.loc b x = true) (hi : slot N x = some i) (ho : i ∉ own) : cG N own b (n + 1) (.Name x p) = some (.nm i) := by
  show (if Ly.loc b x = true then (slot N x).bind fun i => if i ∈ own then none else some (Tg.nm i) else none) = _
  rw [if_pos hl, hi]
  show (if i ∈ own then none else _) = _
  rw [if_neg ho]
theorem parNames_two {ts : List Expr} {l : List (Str × Nat × Pos)} : parNames N own b ts = some l → ts = l.map (fun q => Expr.Name q.1 q.2.2) ∧ ∀ q ∈ l, b.sc.names.lookup q.1 = some .local ∧ slot N q.1 = some q.2.1 ∧ q.2.1 ∉ own := by
  induction ts generalizing l with
  | nil => intro h; cases h; exact ⟨rfl, fun q hq => by cases hq⟩
  | cons e ts ih =>
    intro h
    cases e <;> first | (cases h; done) | skip
    rename_i x p
    have h : (if b.sc.names.lookup x == some .local then (slot N x).bind fun i => if i ∈ own then none else (parNames N own b ts).map fun l => (x, i, p) :: l else none) = some l := h
    split at h
    · rename_i hx
      obtain ⟨i, h1, h⟩ := bind_some h
      split at h
      · cases h
      · rename_i ho
        obtain ⟨r, h2, h⟩ := map_some h
        subst h
        obtain ⟨i1, i2⟩ := ih h2
        refine ⟨by rw [i1]; rfl, fun q hq => ?_⟩
        rcases List.mem_cons.mp hq with rfl | hq
        · exact ⟨by simpa using hx, h1, ho⟩
        · exact i2 q hq
    · cases h
theorem nodupB_two {a c : Nat} {r : List Nat} (h : nodupB (a :: c :: r) = true) : a ≠ c := by
  unfold nodupB at h
  have := (Bool.and_eq_true_iff.mp h).1
  have := of_decide_eq_true this
  exact fun e => this (by rw [e]; exact List.mem_cons_self)
theorem slot_inj {x y : Str} {i j : Nat} (h1 : slot N x = some i) (h2 : slot N y = some j) (h : i ≠ j) : x ≠ y := fun e => h (by subst e; rw [h1] at h2; exact Option.some.inj h2)
theorem sound_S : ∀ (n : Nat) (st : Stmt) (s : Ly.St), GoodS CXx G P k N E b X → cS G N own mkr n b st = some s → SndS own P k E X st s
  | 0, _, _, _, h => by cases h
  | n + 1, st, s, g, h => by
    have sE : ∀ {ob : Bool} {e : Expr} {ir : Ex}, cE G N own 60 ob b e = some ir → Snd own P k E X ob e ir := fun {ob e ir} h => sound_E 60 E ob b X e ir g.g h
    have sA : ∀ {ob : Bool} {es : List Expr} {irs : List Ex}, cArgs (cE G N own 60 ob b) es = some irs → PA X es (tEs X.K X.mg E own (callP P k) ob irs) := fun {ob es irs} h => (snd_args g.g (fun e ir h => cE_star h) (fun e ir h => sE h) _ _ h).1
    have sB : ∀ {sts : List Stmt} {ss : List Ly.St}, cS.cArgsS (cS G N own mkr n b) sts = some ss → PSs X sts (tSs X.K X.mg E own (callP P k) ss) := fun {sts ss} h => snd_sts (fun st s h => sound_S n st s g h) _ _ h
    unfold cS at h
    split at h
    · split at h
      · rename_i hl
        obtain ⟨i, h1, h⟩ := bind_some h
        split at h
        · rename_i ho
          split at h
          · rename_i hle
            obtain ⟨ir, h2, h⟩ := map_some h
            subst h
            rename_i x p e pos _
            cases e <;> first | (cases hle; done) | skip
            obtain ⟨l, h3, h4⟩ := map_some (show (cArgs (cE G N own 59 false b) _).map Ex.lst = some ir from h2)
            subst h4
            exact snd_own g hl h1 ho (snd_args g.g (fun e ir h => cE_star h) (fun e ir h => sound_E 59 E false b X e ir g.g h) _ _ h3).1
          · cases h
        · rename_i ho
          split at h
          · split at h
            · rename_i hc
              obtain ⟨ir, h2, h⟩ := map_some h
              subst h
              simp only [Bool.and_eq_true, Bool.not_eq_true'] at hc
              exact snd_setLc (n := 59) g h2 h1 ho (by simpa using hc.1.1) hc.1.2 hc.2
            · cases h
          · split at h
            · cases h
            · rename_i hc
              obtain ⟨ir, h2, h⟩ := map_some h
              subst h
              exact snd_asg g (snd_tg g.g 1 _ _ (cG_name hl h1 ho)) rfl (sE h2) (by simpa using hc) swap_name
      · cases h
    · rename_i ts kk tp e pos
      split at h
      · rename_i vs k2 vp
        split at h
        · rename_i hlen
          split at h
          · rename_i hf
            obtain ⟨t, h1, h⟩ := bind_some h
            obtain ⟨ir, h2, h⟩ := map_some h
            subst h
            exact snd_asg g (snd_tg g.g 20 _ _ h1) rfl (sE h2) rfl (swap_folded hf)
          · rename_i hf
            split at h
            · cases h
            · rename_i hcn
              obtain ⟨l, h1, h⟩ := bind_some h
              split at h
              · rename_i hc
                obtain ⟨ir, h2, h⟩ := map_some h
                subst h
                simp only [Bool.and_eq_true, decide_eq_true_eq] at hc
                obtain ⟨⟨hl, hs⟩, hnd⟩ := hc
                obtain ⟨ets, hq⟩ := parNames_two h1
                subst ets
                obtain ⟨irs, h3, h4⟩ := map_some (show (cArgs (cE G N own 59 false b) vs).map Ex.tup = some ir from h2)
                subst h4
                have ha := snd_args (own := own) (P := P) (k := k) (E := E) g.g (fun e ir h => cE_star h) (fun e ir h => sound_E 59 E false b X e ir g.g h) _ _ h3
                have hlk : ∀ q ∈ l, X.env.scope.names.lookup q.1 = some .local := fun q hm => by rw [g.g.sc]; exact (hq q hm).1
                match vs, l, hl, hlen, hs, hnd, hq, hlk, ha, hf, hcn with
                | [a, c], [(x, i, px), (y, j, py)], _, _, hs, hnd, hq, hlk, ha, hf, hcn =>
                  obtain ⟨_, i1, i2⟩ := hq _ List.mem_cons_self
                  obtain ⟨_, j1, j2⟩ := hq _ (List.mem_cons_of_mem _ List.mem_cons_self)
                  have hij : i ≠ j := nodupB_two hnd
                  have hs' : (py.line == px.line) = true := List.all_eq_true.mp (show ([(y, j, py)] : List (Str × Nat × Pos)).all (fun q => q.2.2.line == px.line) = true from hs) _ List.mem_cons_self
                  exact snd_par2 g (slot_get i1) (slot_get j1) hij i2 j2 (hlk _ List.mem_cons_self) (hlk _ (List.mem_cons_of_mem _ List.mem_cons_self)) ha.1
                    (swap_two g.kind (hlk _ List.mem_cons_self) (hlk _ (List.mem_cons_of_mem _ List.mem_cons_self)) hs' (slot_inj i1 j1 hij) ha.2 (by simpa using hf) (by simpa using hcn))
                | [a, c, c2], [(x, i, px), (y, j, py), (z, l, pz)], _, _, hs, hnd, hq, hlk, ha, hf, hcn =>
                  obtain ⟨_, i1, i2⟩ := hq _ List.mem_cons_self
                  obtain ⟨_, j1, j2⟩ := hq _ (List.mem_cons_of_mem _ List.mem_cons_self)
                  obtain ⟨_, l1, l2⟩ := hq _ (List.mem_cons_of_mem _ (List.mem_cons_of_mem _ List.mem_cons_self))
                  have hij : i ≠ j := nodupB_two hnd
                  have hil : i ≠ l := fun e => by
                    unfold nodupB at hnd
                    exact of_decide_eq_true (Bool.and_eq_true_iff.mp hnd).1 (by rw [e]; exact List.mem_cons_of_mem _ List.mem_cons_self)
                  have hjl : j ≠ l := by
                    unfold nodupB at hnd
                    exact nodupB_two (Bool.and_eq_true_iff.mp hnd).2
                  have hs0 := List.all_eq_true.mp (show ([(y, j, py), (z, l, pz)] : List (Str × Nat × Pos)).all (fun q => q.2.2.line == px.line) = true from hs)
                  have hs1 : (py.line == px.line) = true := hs0 _ List.mem_cons_self
                  have hs2 : (pz.line == px.line) = true := hs0 _ (List.mem_cons_of_mem _ List.mem_cons_self)
                  have k1 := hlk _ List.mem_cons_self
                  have k2 := hlk _ (List.mem_cons_of_mem _ List.mem_cons_self)
                  have k3 := hlk _ (List.mem_cons_of_mem _ (List.mem_cons_of_mem _ List.mem_cons_self))
                  exact snd_par3 g (slot_get i1) (slot_get j1) (slot_get l1) hij hil hjl i2 j2 l2 k1 k2 k3 ha.1
                    (swap_three g.kind k1 k2 k3 hs1 hs2 (slot_inj i1 j1 hij) (slot_inj i1 l1 hil) (slot_inj j1 l1 hjl) ha.2 (by simpa using hf) (by simpa using hcn))
              · cases h
        · rename_i hlen
          obtain ⟨t, h1, h⟩ := bind_some h
          obtain ⟨ir, h2, h⟩ := map_some h
          subst h
          exact snd_asg g (snd_tg g.g 20 _ _ h1) rfl (sE h2) rfl (swap_length (by simpa using hlen))
      · rename_i hnt
        split at h
        · cases h
        · rename_i hc
          obtain ⟨t, h1, h⟩ := bind_some h
          obtain ⟨ir, h2, h⟩ := map_some h
          subst h
          exact snd_asg g (snd_tg g.g 20 _ _ h1) rfl (sE h2) (by simpa using hc) (swap_other fun vs k p e => hnt vs k p e)
    · split at h
      · cases h
      · rename_i hsl
        split at h
        · cases h
        · rename_i hc
          obtain ⟨iv, h1, h⟩ := bind_some h
          obtain ⟨io, h2, h⟩ := bind_some h
          obtain ⟨ii, h3, h⟩ := map_some h
          subst h
          exact snd_set g (sE h2) (sE h3) (sE h1) (by simpa using hc) fun lo hi st pos e => hsl lo hi st pos e
    · split at h
      · rename_i hc
        obtain ⟨i, h1, h⟩ := bind_some h
        split at h
        · rename_i hc2
          obtain ⟨a, h2, h⟩ := map_some h
          subst h
          simp only [Bool.and_eq_true, decide_eq_true_eq] at hc hc2
          obtain ⟨rfl, hl⟩ := hc
          exact snd_app g hc2.1.2 hc2.1.1 h1 hc2.2 hl (cE_star h2) (sE h2)
        · cases h
      · cases h
    · split at h
      · obtain ⟨ir, h1, h⟩ := map_some h
        subst h
        exact snd_expr g (sE h1) rfl
      · cases h
    · split at h
      · split at h
        · obtain ⟨l, h1, h⟩ := map_some h
          subst h
          exact snd_new g (sA h1)
        · obtain ⟨ir, h1, h⟩ := map_some h
          subst h
          exact snd_ret g (sE h1)
      · split at h
        · rename_i hi
          split at h
          · rename_i ho
            split at h
            · rename_i hc
              cases h
              obtain ⟨c1, c2⟩ := Bool.and_eq_true_iff.mp hc
              exact snd_retOwn g c1 c2 hi ho
            · cases h
          · obtain ⟨ir, h1, h⟩ := map_some h
            subst h
            exact snd_ret g (sE h1)
        · obtain ⟨ir, h1, h⟩ := map_some h
          subst h
          exact snd_ret g (sE h1)
      · obtain ⟨ir, h1, h⟩ := map_some h
        subst h
        exact snd_ret g (sE h1)
    · cases h
      refine ps_imp ps_retN fun D σ H q => ?_
      obtain ⟨W0, W, S, en, rfl, f, q⟩ := q
      rw [evS] at q
      exact q W f.x f.R .non .non
    · obtain ⟨c, h1, h⟩ := bind_some h
      obtain ⟨x, h2, h⟩ := bind_some h
      obtain ⟨y, h3, h⟩ := map_some h
      subst h
      exact snd_if_ g (sE h1) (sB h2) (sB h3)
    · obtain ⟨t, h1, h⟩ := bind_some h
      obtain ⟨it, h2, h⟩ := bind_some h
      obtain ⟨ib, h3, h⟩ := map_some h
      subst h
      obtain ⟨kk, es⟩ := it
      have hi := snd_iter (E := E) (own := own) (P := P) (k := k) g.g (st := fun ob e ir h => cE_star h) (ih := fun ob e ir h => sE h) h2
      exact snd_for g hi.1 hi.2 (snd_tg g.g 20 _ _ h1) (sB h3)
    · obtain ⟨c, h1, h⟩ := bind_some h
      obtain ⟨ib, h2, h⟩ := map_some h
      subst h
      exact snd_while g (sE h1) (sB h2)
    · cases h
      refine ps_imp ps_never fun D σ H q => ?_
      obtain ⟨W0, W, S, en, rfl, f, q⟩ := q
      rw [evS] at q
      exact q
    · cases h
      refine ps_imp ps_pass fun D σ H q => ?_
      obtain ⟨W0, W, S, en, rfl, f, q⟩ := q
      rw [evS] at q
      exact q W σ f.x (ExtS.refl W) f.R f.e
    · cases h
      refine ps_imp ps_break fun D σ H q => ?_
      obtain ⟨W0, W, S, en, rfl, f, q⟩ := q
      rw [evS] at q
      exact q W σ f.x (ExtS.refl W) f.R f.e
    · cases h
      refine ps_imp ps_continue fun D σ H q => ?_
      obtain ⟨W0, W, S, en, rfl, f, q⟩ := q
      rw [evS] at q
      exact q W σ f.x (ExtS.refl W) f.R f.e
    · cases h
end
end Ly
/-! Ly: the module's defs, by the evaluator. -/
namespace Ly
open PySem PySem.Spec PyProof.Rows L2 PySem.SeqAt

/-! ### binding -/
theorem zip_lookup : ∀ {ps : List Str} {us : List Value} {x : Str}, us.length = ps.length → x ∈ ps → ((ps.zip us).lookup x).isSome = true
  | [], _, _, _, h => by cases h
  | p :: ps, [], _, h, _ => by simp at h
  | p :: ps, u :: us, x, hl, h => by
    rw [List.zip_cons_cons, List.lookup_cons]
    by_cases e : x == p
    · rw [e]; rfl
    · rw [show (x == p) = false by simpa using e]
      refine zip_lookup (by simpa using hl) ?_
      rcases List.mem_cons.mp h with rfl | h
      · simp at e
      · exact h
theorem zip_filter : ∀ {ps : List Str} {us : List Value} {l : List (Str × Value)}, us.length = ps.length → ps.Nodup → (∀ p ∈ ps.zip us, l.lookup p.1 = some p.2) → (ps.filterMap fun n => (l.lookup n).map (n, ·)) = ps.zip us
  | [], us, l, h, _, _ => by simp
  | p :: ps, [], _, h, _, _ => by simp at h
  | p :: ps, u :: us, l, hl, hn, h => by
    rw [List.zip_cons_cons, List.filterMap_cons]
    have e := h (p, u) (by rw [List.zip_cons_cons]; exact List.mem_cons_self)
    dsimp only at e
    rw [e]
    dsimp only [Option.map_some]
    rw [zip_filter (by simpa using hl) (List.nodup_cons.mp hn).2 fun q hq => h q (by rw [List.zip_cons_cons]; exact List.mem_cons_of_mem _ hq)]
theorem zip_get : ∀ {ps : List Str} {us : List Value}, us.length = ps.length → ps.Nodup → ∀ p ∈ ps.zip us, (ps.zip us).lookup p.1 = some p.2
  | [], us, h, _, p, hp => by simp at hp
  | x :: ps, [], h, _, p, hp => by simp at h
  | x :: ps, u :: us, hl, hn, p, hp => by
    rw [List.zip_cons_cons] at hp ⊢
    rw [List.lookup_cons]
    rcases List.mem_cons.mp hp with rfl | hp
    · simp
    · have hne : p.1 ≠ x := fun e => (List.nodup_cons.mp hn).1 (by rw [← e]; exact (List.of_mem_zip (a := p.1) (b := p.2) hp).1)
      rw [show (p.1 == x) = false by simpa using hne]
      exact zip_get (by simpa using hl) (List.nodup_cons.mp hn).2 p hp
theorem bind_plain {x qual : Str} {as : List Arg} {body : List Stmt} {scope : Scope} {kV doc pm : Value} {an : Option Addr} {cdv ct : Value} {us : List Value} (hl : us.length = (as.map (·.arg)).length) (hn : (as.map (·.arg)).Nodup) :
    bindArgs (PySem.W.fnOf x qual ⟨[], as, none, [], [], none, []⟩ body scope .none kV doc pm an cdv ct) ⟨us, []⟩ = pure ((as.map (·.arg)).zip us) := by
  generalize hps : as.map (·.arg) = ps at *
  have hg := zip_get hl hn
  have hf := zip_filter hl hn hg
  have hm : ps.filter (fun n => ((ps.zip us).lookup n).isNone) = [] := by
    rw [List.filter_eq_nil_iff]
    intro a ha
    have := zip_lookup hl ha
    cases q : (ps.zip us).lookup a <;> simp_all
  have hd : seqItems? Value.none = pure none := rfl
  simp only [bindArgs, PySem.W.fnOf, List.map_nil, List.nil_append, hps, List.forIn_nil, pure_bind, hd]
  have z : ¬ us.length > ps.length := by omega
  simp [z, hl, hm, hf]

/-! ### a def -/
def dOf (it : Item) : Stmt → Option He.DefD
  | .FunctionDef _ args body [] none [] scope none _ _ => some ⟨(it.name, none), it.name, it.name, args, body, scope, [], []⟩
  | _ => none
theorem argNames_eq {args : Arguments} {ps : List Str} (h : argNames args = some ps) : ∃ as, args = ⟨[], as, none, [], [], none, []⟩ ∧ as.map (·.arg) = ps := by
  unfold argNames at h
  split at h
  · cases h
    exact ⟨_, rfl, rfl⟩
  · cases h
theorem slot_start {ds : List D} {n i : Nat} {d : D} (h : (ds.map some ++ List.replicate n none)[i]? = some (some d)) : i < ds.length ∧ ds[i]? = some d := by
  by_cases hi : i < ds.length
  · rw [List.getElem?_append_left (by simpa using hi)] at h
    refine ⟨hi, ?_⟩
    rw [List.getElem?_map] at h
    cases q : ds[i]? with
    | none => rw [q] at h; cases h
    | some e => rw [q] at h; cases h; rfl
  · rw [List.getElem?_append_right (by simpa using Nat.le_of_not_lt hi)] at h
    rw [List.getElem?_replicate] at h
    split at h
    · cases h
    · cases h
section
variable {P0 : Program} {w : World} {K : PySem.W.Frag} {mg : Str → Option Value}
/-- how the module stands -/
structure Lay (K : PySem.W.Frag) (mg : Str → Option Value) (G : Glob) (body : List Stmt) (items : List Item) : Prop where
  consts : ∀ x d, G.consts.lookup x = some d → ∃ v u, mg x = some u ∧ RelV v u ∧ ∀ W : Wd, RepD K mg W d v
  free : ∀ x, x ∈ G.free → mg x = none
  fns : ∀ x, x ∈ G.fns → x ∈ items.map (·.name)
  defs : ∀ it ∈ items, ∀ st d, body[it.at_]? = some st → dOf it st = some d → ∃ f fd, mg it.name = some (.ref f) ∧ FunD K d.name d.qual d.params d.body d.scope [] [] f fd
theorem mkProg_look {G : Glob} {body : List Stmt} : ∀ {items : List Item} {P : Prog} {it : Item}, nodupS (items.map (·.name)) = true → mkProg G body items = some P → it ∈ items → ∃ st f, body[it.at_]? = some st ∧ cF G it st = some f ∧ P.lookup it.name = some f
  | [], _, _, _, _, h => by cases h
  | i0 :: items, P, it, hn, h, hm => by
    obtain ⟨st, h1, h⟩ := bind_some h
    obtain ⟨f, h2, h⟩ := bind_some h
    obtain ⟨P', h3, h⟩ := map_some h
    subst h
    have hn' : (decide (i0.name ∉ items.map (·.name)) && nodupS (items.map (·.name))) = true := hn
    obtain ⟨n1, n2⟩ := Bool.and_eq_true_iff.mp hn'
    rcases List.mem_cons.mp hm with rfl | hm
    · exact ⟨st, f, h1, h2, by simp⟩
    · obtain ⟨st', f', k1, k2, k3⟩ := mkProg_look n2 h3 hm
      refine ⟨st', f', k1, k2, ?_⟩
      rw [List.lookup_cons]
      have : it.name ≠ i0.name := fun e => of_decide_eq_true n1 (by rw [← e]; exact List.mem_map.mpr ⟨it, hm, rfl⟩)
      rw [show (it.name == i0.name) = false by simpa using this]
      exact k3
theorem cF_inv {G : Glob} {it : Item} {st : Stmt} {f : Fn} (h : cF G it st = some f) : ∃ as body scope pos bind,
    st = .FunctionDef it.name ⟨[], as, none, [], [], none, []⟩ body [] none [] scope none bind pos ∧ as.map (·.arg) = it.ps ∧ scopeOk it.N it.ps scope = true ∧ (∀ i ∈ it.own, it.ps.length ≤ i) ∧
    ∃ b, cS.cArgsS (cS G it.N it.own it.mkr 30 ⟨scope, fun _ => true⟩) body = some b ∧ f = ⟨it.ps.length, it.N.length, b⟩ := by
  unfold cF at h
  split at h
  · rename_i name args body scope bind pos
    split at h
    · rename_i hc
      simp only [Bool.and_eq_true, decide_eq_true_eq] at hc
      obtain ⟨⟨⟨⟨c1, c2⟩, c3⟩, c4⟩, c5⟩ := hc
      obtain ⟨as, rfl, e2⟩ := argNames_eq c4
      obtain ⟨b, h1, h⟩ := map_some h
      subst c1
      exact ⟨as, body, scope, pos, bind, rfl, e2, c3, fun i hi => of_decide_eq_true (List.all_eq_true.mp c5 i hi), b, h1, h.symm⟩
    · cases h
  · cases h
theorem nodupS_ok : ∀ {l : List Str}, nodupS l = true → l.Nodup
  | [], _ => List.nodup_nil
  | x :: l, h => by
    have h : (decide (x ∉ l) && nodupS l) = true := h
    obtain ⟨h1, h2⟩ := Bool.and_eq_true_iff.mp h
    exact List.nodup_cons.mpr ⟨of_decide_eq_true h1, nodupS_ok h2⟩
theorem scope_ok {N ps : List Str} {sc : Scope} (h : scopeOk N ps sc = true) : FnScope N ps sc ∧ sc.kind = .function := by
  unfold scopeOk kindFn at h
  simp only [Bool.and_eq_true, decide_eq_true_eq, Bool.not_eq_true'] at h
  obtain ⟨⟨⟨⟨⟨⟨h1, h2⟩, h3⟩, h4⟩, h5⟩, h6⟩, h7⟩ := h
  have hk : sc.kind = .function := by
    split at h1
    · assumption
    · cases h1
  refine ⟨⟨hk, h3, h2, nodupS_ok h4, h5, fun x hx => ?_, fun y hy e => ?_⟩, hk⟩
  · have := List.all_eq_true.mp h6 x hx
    split at this
    · exact .inl (by assumption)
    · exact .inr (by assumption)
    · cases this
  · have := List.all_eq_true.mp h7 y hy
    rw [e] at this
    cases this
/-- every def of the module, at every depth of calls -/
theorem defs_ok {G : Glob} {body : List Stmt} {items : List Item} {P : Prog} (hP : mkProg G body items = some P) (hn : nodupS (items.map (·.name)) = true) (L : Lay K mg G body items) : ∀ (k : Nat) (it : Item), it ∈ items →
    ∃ f fd, mg it.name = some (.ref f) ∧ PySem.W.keepIn K (.ref f) = true ∧ Binds K fd it.ps [] ∧ (∀ (s : Shared) (us : List Value), us.length = it.ps.length → BindsTo s fd ⟨us, []⟩ (it.ps.zip us)) ∧
      ∀ base : Heap, FnOk P0 w K mg base (L2.CX P0 w) (k + 1) f fd it.ps (spF K mg P k it.name)
  | 0, it, hm => by
    obtain ⟨st, fn, k1, k2, k3⟩ := mkProg_look hn hP hm
    obtain ⟨as, bd, scope, pos, bind, rfl, e2, sok, how, b, hb, rfl⟩ := cF_inv k2
    obtain ⟨f, fd, m1, F⟩ := L.defs it hm _ _ k1 rfl
    have hnd : it.ps.Nodup := by
      have S := (scope_ok sok).1
      rw [← S.pre]
      exact S.nd.sublist (List.take_sublist _ _)
    have hbd := fun (kV doc pm : Value) (an : Option Addr) (cdv ct : Value) (us : List Value) (hl : us.length = it.ps.length) => (by
      have := bind_plain (x := it.name) (qual := it.name) (as := as) (body := bd) (scope := scope) (kV := kV) (doc := doc) (pm := pm) (an := an) (cdv := cdv) (ct := ct) (us := us) (by rw [e2]; exact hl) (by rw [e2]; exact hnd)
      rw [e2] at this
      exact this : bindArgs (PySem.W.fnOf it.name it.name ⟨[], as, none, [], [], none, []⟩ bd scope .none kV doc pm an cdv ct) ⟨us, []⟩ = pure (it.ps.zip us))
    refine ⟨f, fd, m1, F.kp, F.bindsN hbd, F.bindsA hbd, fun base => ⟨fun vs H Q E h => ?_, fun A outer s H args us vs Q E _ _ _ _ h => ?_⟩⟩
    · obtain ⟨_, _, _, _, _, _, q⟩ := h
      exact q.elim
    · obtain ⟨_, _, _, _, _, _, q⟩ := h
      exact q.elim
  | k + 1, it, hm => by
    obtain ⟨st, fn, k1, k2, k3⟩ := mkProg_look hn hP hm
    obtain ⟨as, bd, scope, pos, bind, rfl, e2, sok, how, b, hb, rfl⟩ := cF_inv k2
    obtain ⟨f, fd, m1, F⟩ := L.defs it hm _ _ k1 rfl
    obtain ⟨S, hkind⟩ := scope_ok sok
    have hnd : it.ps.Nodup := by
      rw [← S.pre]
      exact S.nd.sublist (List.take_sublist _ _)
    have hpl : it.ps.length ≤ it.N.length := by have := congrArg List.length S.pre; rw [List.length_take] at this; omega
    have hbd := fun (kV doc pm : Value) (an : Option Addr) (cdv ct : Value) (us : List Value) (hl : us.length = it.ps.length) => (by
      have := bind_plain (x := it.name) (qual := it.name) (as := as) (body := bd) (scope := scope) (kV := kV) (doc := doc) (pm := pm) (an := an) (cdv := cdv) (ct := ct) (us := us) (by rw [e2]; exact hl) (by rw [e2]; exact hnd)
      rw [e2] at this
      exact this : bindArgs (PySem.W.fnOf it.name it.name ⟨[], as, none, [], [], none, []⟩ bd scope .none kV doc pm an cdv ct) ⟨us, []⟩ = pure (it.ps.zip us))
    have ulk : ∀ (ds : List D) (S : Sto), callP P (k + 1) it.name ds S = if ds.length = it.ps.length then
        (match evSs (callP P k) b (ds.map some ++ List.replicate (it.N.length - it.ps.length) none) S with
        | .ok (.ret d, _) S' => Re.ok d S'
        | .ok (.nx, _) S' => .ok .non S'
        | .exc c fs S' => .exc c fs S'
        | _ => .bad) else .bad := fun ds S => by
      first | (rw [callP, k3]; done) | (rw [callP, k3]; rfl)
    refine ⟨f, fd, m1, F.kp, F.bindsN hbd, F.bindsA hbd, fun base => F.ok S (fun vs H Q E h => ?_) fun cdv A outer s H vs Q E hr h => ?_⟩
    · obtain ⟨W, St, ds, _, _, hds, q⟩ := h
      rw [ulk] at q
      split at q
      · rename_i hl
        rw [← hds.length]; exact hl
      · exact q.elim
    · refine ⟨tSs K mg E it.own (callP P k) b, ?_, ?_⟩
      · have tk := L2.takes_of (X := cxOf (L2.CX P0 w) P0 w K mg base it.N it.name scope f cdv A outer s H E) rfl rfl rfl (E := E) rfl
        have gd : GoodS (L2.CX P0 w) G P k it.N E ⟨scope, fun _ => true⟩ (cxOf (L2.CX P0 w) P0 w K mg base it.N it.name scope f cdv A outer s H E) := {
          g := {
            calm := rfl
            hN := rfl
            nd := S.nd
            sc := rfl
            fo := fun _ _ => rfl
            room := hr
            pass := fun pins σ H s e s' I c => L2.passes_call tk (fun _ _ _ _ h => h) pins σ H s e s' I c
            e0 := fun outer H s e s' z => by
              obtain ⟨_, _, _, _, _, _, _, _, _, _, _, _, z⟩ := z
              exact z.elim
            consts := L.consts
            free := L.free
            fns := fun x hx => by
              obtain ⟨it', hi', rfl⟩ := List.mem_map.mp (L.fns x hx)
              obtain ⟨f', fd', a1, a2, a3, _, a4⟩ := defs_ok hP hn L k it' hi'
              exact ⟨f', fd', it'.ps, a1, a2, a3, a4 base⟩ }
          po := L2.passes_of rfl
          kind := by
            show (if scope.kind.isAnnotationScope then ScopeKind.function else scope.kind) = _
            rw [hkind]; rfl }
        exact snd_sts (fun st s h => sound_S 30 st s gd h) _ _ hb
      · obtain ⟨W, St, ds, rfl, R, hds, q⟩ := h
        rw [ulk] at q
        split at q
        · rename_i hl
          have hlv : vs.length = it.ps.length := by rw [← hds.length]; exact hl
          refine ⟨W, W, St, ds.map some ++ List.replicate (it.N.length - it.ps.length) none, rfl, ⟨R, Ext.refl W, R.dom, ⟨⟨?_, fun i d h _ => ?_, fun i d h hi => ?_, fun i j d e a b hi _ _ h _ _ _ => ?_⟩, fun i d a hi h _ => ?_⟩⟩, ?_⟩
          · unfold L2.start
            rw [List.length_append, List.length_append, List.length_map, List.length_map, List.length_replicate, List.length_replicate, hl, hlv]
          · obtain ⟨h1, h2⟩ := slot_start h
            obtain ⟨v, h3, h4⟩ := hds.get h2
            refine ⟨v, ?_, h4⟩
            unfold L2.start
            rw [List.getElem?_append_left (by rw [List.length_map, ← hds.length]; exact h1), List.getElem?_map, h3]
            rfl
          · have := how i hi
            have := (slot_start h).1
            omega
          · have := how i hi
            have := (slot_start h).1
            omega
          · have := how i hi
            have := (slot_start h).1
            omega
          · generalize evSs (callP P k) b (ds.map some ++ List.replicate (it.N.length - it.ps.length) none) St = r at q
            cases r with
            | bad => exact q.elim
            | exc c fs S' => exact fun W' cls od x R q' => q W' cls od x R q'
            | ok z S' =>
              obtain ⟨fl, en'⟩ := z
              cases fl with
              | nx => exact fun W' σ' x xs R e => q W' x R .non .non
              | ret d => exact fun W' x R v hv => q W' x R v hv
              | brk => exact q.elim
              | cnt => exact q.elim
        · exact q.elim
end
end Ly
/-! Ly: a law's end. -/
namespace Ly
open PySem PySem.Spec PyProof.Rows L2 PySem.SeqAt

def faC : Str × D → He.Fa
  | (x, .int i) => .int x i
  | (x, .str s) => .str x s
  | (x, _) => .glo x
def constOk : Str × D → Bool
  | (_, .int _) => true
  | (_, .str _) => true
  | _ => false
def faOf (G : Glob) : List He.Fa := G.fns.map .glo ++ (G.free.map .free ++ G.consts.map faC)
def fnOf' (body : List Stmt) (items : List Item) : List He.DefD := items.filterMap fun it => (body[it.at_]?).bind (dOf it)
theorem look_mem {x : Str} {d : D} : ∀ {l : List (Str × D)}, l.lookup x = some d → (x, d) ∈ l
  | [], h => by cases h
  | (y, e) :: l, h => by
    rw [List.lookup_cons] at h
    by_cases q : x == y
    · rw [q] at h
      cases h
      rw [show x = y by simpa using q]
      exact List.mem_cons_self
    · rw [show (x == y) = false by simpa using q] at h
      exact List.mem_cons_of_mem _ (look_mem h)
theorem lay_of {G : Glob} {body : List Stmt} {items : List Item} (hG : G.fns = items.map (·.name)) (hc : G.consts.all constOk = true) {K : PySem.W.Frag} {h : Heap} {mg : Str → Option Value} (X : K.In h) (Gn : h.Ns mainGlobals mg)
    (c : He.SaysD (faOf G) (fnOf' body items) K) : Lay K mg G body items where
  consts := fun x d hx => by
    have hm := look_mem hx
    have hf := c.facts (f := faC (x, d)) (List.mem_append_right _ (List.mem_append_right _ (List.mem_map.mpr ⟨_, hm, rfl⟩)))
    have hk := List.all_eq_true.mp hc _ hm
    cases d <;> first | (cases hk; done) | skip
    · obtain ⟨t, e⟩ := He.int_ok X Gn hf
      exact ⟨.int _, _, e, ⟨t, rfl⟩, fun W => .int _⟩
    · obtain ⟨t, e⟩ := He.str_ok X Gn hf
      exact ⟨.str _, _, e, ⟨t, rfl⟩, fun W => .str _⟩
  free := fun x hx => He.free_ok X Gn (c.facts (List.mem_append_right _ (List.mem_append_left _ (List.mem_map.mpr ⟨_, hx, rfl⟩))))
  fns := fun x hx => by rw [← hG]; exact hx
  defs := fun it hm st d h1 h2 => by
    have hd : d ∈ fnOf' body items := List.mem_filterMap.mpr ⟨it, hm, by rw [h1]; exact h2⟩
    obtain ⟨fd, F⟩ := c.defs hd
    have hg := He.glo_ok X Gn (c.facts (List.mem_append_left _ (List.mem_map.mpr ⟨it.name, by rw [hG]; exact List.mem_map.mpr ⟨it, hm, rfl⟩, rfl⟩)))
    have e : d.at_ = (it.name, none) ∧ d.dfl = [] ∧ d.kwd = [] := by
      unfold dOf at h2
      split at h2
      · cases h2; exact ⟨rfl, rfl, rfl⟩
      · cases h2
    obtain ⟨e1, e2, e3⟩ := e
    refine ⟨_, fd, hg, ?_⟩
    unfold He.DefD.dvs He.DefD.kws at F
    rw [e1, e2, e3] at F
    exact F
/-- the law's promise, from the evaluator -/
theorem law_sp {K : PySem.W.Frag} {mg : Str → Option Value} {P : Prog} {k : Nat} {x : Str} {ns : List Int} {S' : Sto} (h : callP P k x [.lst (ns.map D.int)] [] = .ok (.bl true) S') {H : Hp} {a : Addr} (hS : SqL K H a (ns.map V.int)) :
    spF K mg P k x [.ref a] H (fun v _ => v = .bl true) fun _ _ _ => False := by
  let W : Wd := ⟨[], fun _ => False, H⟩
  have hr : RepDs K mg W (ns.map D.int) (ns.map V.int) := by
    clear hS h
    induction ns with
    | nil => exact .nil
    | cons n ns ih => exact .cons (.int n) ih
  have hl : LAt K W a (ns.map V.int) := hS.elim (fun q => .inl ⟨q, fun z => z⟩) .inr
  refine ⟨W, [], [.lst (ns.map D.int)], rfl, ⟨rfl, List.nodup_nil, fun a h => by simp [W] at h, fun a h => h.elim, fun n mo a h => by simp at h⟩, .cons (.lst hl hr) .nil, ?_⟩
  rw [h]
  exact fun W' x R v hv => hv.bl_inv
/-- at the top nothing is let out -/
theorem FnOk.top {P : Program} {w : World} {K : PySem.W.Frag} {mg : Str → Option Value} {base : Heap} {k : Nat} {f : Addr} {fd : FuncData} {ps : List Str} {sp : Sp} (F : FnOk P w K mg base (L2.CX P w) k f fd ps sp) :
    FnOk P w K mg base (fun _ _ _ _ _ _ => False) k f fd ps (fun vs H Q _ => sp vs H Q fun _ _ _ => False) :=
  ⟨fun vs H Q _ h => F.len vs H Q _ h, fun A outer s H args us vs Q E hr he hb hv hs => codeAny_mono (F.run A outer s H args us vs Q _ hr he hb hv hs) fun r s' h => by
    cases r with
    | ok x => cases x <;> exact h
    | error e =>
      obtain ⟨_, _, _, _, _, _, _, _, _, _, _, _, z⟩ := h
      exact z.elim⟩
/-- the walk's part of a law -/
theorem law_walk {l : PySem.W.OpenLaw} {q : Program} {loose : List Str} {XP : (Str → Option Value) → Heap → Prop} {d : DefRec} {G : Glob} {items : List Item} {P : Prog} {k n : Nat} {xs : Str} {it : Item} {m : Nat}
    (hn : l.most = some n) (hn2 : n ≤ sizeLine) (hdf : d.params.defaults = []) (hr : Room (k + 1) callerA)
    (hP : mkProg G l.prog.main.body items = some P) (hnd : nodupS (items.map (·.name)) = true) (hG : G.fns = items.map (·.name)) (hc : G.consts.all constOk = true)
    (hit : items[m]? = some it) (hps : it.ps = [xs]) (hname : d.name = it.name)
    (hlaw : ∀ ns : List Int, ns.length ≤ n → ∃ S', callP P k it.name [.lst (ns.map D.int)] [] = .ok (.bl true) S') :
    PySem.W.WalkO q loose XP (fun _ h => ∃ K : PySem.W.Frag, K.In h ∧ He.SaysD (faOf G) (fnOf' l.prog.main.body items) K) l.row.toRowW d [] (fun f vs => PySem.call f vs) := by
  refine L2.walk_ofE (l := l) (n := n) (k := k + 1) (x := xs) (CX := fun _ _ _ _ _ _ => False) hn hn2 hdf hr ?_ (fun _ _ _ _ z => z)
  intro w mg fa h Y G' hmg
  obtain ⟨K, KX, c⟩ := Y
  have hm : it ∈ items := List.mem_of_getElem? hit
  obtain ⟨f, fd, m1, _, _, b, F⟩ := defs_ok (P0 := l.prog) (w := w) hP hnd (lay_of hG hc KX G' c) k it hm
  rw [hname, m1] at hmg
  cases hmg
  rw [hps] at b
  refine ⟨K, fd, fun vs H Q _ => spF K mg P k it.name vs H Q fun _ _ _ => False, KX, fun s u => b s [u] rfl, fun H a ns hl _ hS => ?_, fun base _ _ => ?_⟩
  · obtain ⟨S', e⟩ := hlaw ns hl
    exact law_sp e hS
  · have := FnOk.top (F base)
    rw [hps] at this
    exact this
end Ly
/-! Ly: for the plain laws: runs of the evaluator. -/
namespace Ly
open PySem

section
variable {P : Prog} {k : Nat} {f : Str} {fn : Fn} {ds : List D} {S S' : Sto} {d : D} {en' : Env}
theorem call_ret (h : P.lookup f = some fn) (hl : ds.length = fn.np) (e : evSs (callP P k) fn.body (ds.map some ++ List.replicate (fn.ns - fn.np) none) S = .ok (.ret d, en') S') : callP P (k + 1) f ds S = .ok d S' := by
  rw [callP, h]
  dsimp only
  rw [if_pos hl, e]
theorem call_nx (h : P.lookup f = some fn) (hl : ds.length = fn.np) (e : evSs (callP P k) fn.body (ds.map some ++ List.replicate (fn.ns - fn.np) none) S = .ok (.nx, en') S') : callP P (k + 1) f ds S = .ok .non S' := by
  rw [callP, h]
  dsimp only
  rw [if_pos hl, e]
theorem bind_ok' {α β : Type} (a : α) (S : Sto) (f : α → Sto → Re β) : (Re.ok a S).bind f = f a S := rfl
theorem lift_some {α : Type} (a : α) (S : Sto) : lift (some a) S = .ok a S := rfl
theorem eqOk_ii (a b : Int) : eqOk (.int a) (.int b) = true := rfl
theorem eqv_ii (a b : Int) : D.eqv (.int a) (.int b) = decide (a = b) := by rw [D.eqv]; rfl
theorem eqOk_ss (a b : Str) : eqOk (.str a) (.str b) = true := rfl
theorem eqv_ss (a b : Str) : D.eqv (.str a) (.str b) = decide (a = b) := by
  rw [D.eqv]
  by_cases h : a = b
  · subst h; simp
  · simp [h]
theorem ltOk_ii (a b : Int) : D.ltOk (.int a) (.int b) = true := rfl
theorem lt_ii (a b : Int) : D.lt (.int a) (.int b) = decide (a < b) := by rw [D.lt]
theorem l1 : 1 ≤ line := by decide
theorem l2 : 2 ≤ line := by decide
theorem l4 : 4 ≤ line := by decide
theorem l3 : 3 ≤ line := by decide
/-! sequences -/
theorem evSs_nil {cf : CF} {en : Env} : evSs cf [] en S = .ok (.nx, en) S := by rw [evSs]
theorem evSs_nx {cf : CF} {s : St} {r : List St} {en en1 : Env} {S1 : Sto} (h : evS cf s en S = .ok (.nx, en1) S1) : evSs cf (s :: r) en S = evSs cf r en1 S1 := by
  rw [evSs, h]
  rfl
theorem evSs_ret {cf : CF} {s : St} {r : List St} {en en1 : Env} {S1 : Sto} {d : D} (h : evS cf s en S = .ok (.ret d, en1) S1) : evSs cf (s :: r) en S = .ok (.ret d, en1) S1 := by
  rw [evSs, h]
  rfl
end
theorem evS_ite_t {cf : CF} {c : Ex} {a b : List St} {en : Env} {S S1 : Sto} {r : Re (Fl × Env)} (h : evE cf c en S = .ok (.bl true) S1) (h2 : evSs cf a en S1 = r) : evS cf (.ite c a b) en S = r := by
  rw [evS, h]
  exact h2
theorem evS_ite_f {cf : CF} {c : Ex} {a b : List St} {en : Env} {S S1 : Sto} {r : Re (Fl × Env)} (h : evE cf c en S = .ok (.bl false) S1) (h2 : evSs cf b en S1 = r) : evS cf (.ite c a b) en S = r := by
  rw [evS, h]
  exact h2
theorem evS_ret {cf : CF} {e : Ex} {en : Env} {S S1 : Sto} {d : D} (h : evE cf e en S = .ok d S1) : evS cf (.ret e) en S = .ok (.ret d, en) S1 := by
  rw [evS, h]
  rfl
/-- the body of a for, of a comprehension -/
def bodyF (cf : CF) (t : Tg) (b : List St) : D → Env → Sto → Re (Fl × Env) := fun x en S => match t.put x en with
  | none => .bad
  | some en' => evSs cf b en' S
theorem evS_for {cf : CF} {t : Tg} {kk : Ik} {es : List Ex} {b : List St} {en : Env} {S S1 : Sto} {ds xs : List D} {w : List (Nat × Option MO)} {r : Re (Fl × Env)} (h1 : evEs cf es en S = .ok ds S1) (h2 : walk S1 kk ds = some xs) (h3 : watch S1 ds = w)
    (h4 : forLoop (bodyF cf t b) w xs en S1 = r) : evS cf (.for_ t kk es b) en S = r := by
  rw [evS, h1]
  show (match walk S1 kk ds with | none => (Re.bad : Re (Fl × Env)) | some xs => forLoop (bodyF cf t b) (watch S1 ds) xs en S1) = r
  rw [h2, h3]
  exact h4
def bodyC (cf : CF) (vs : List Nat) (tg : Tg) (c : Option Ex) (e : Ex) (en : Env) : D → Sto → Re (Option D) := fun x S => match tg.put x (wipeE en vs) with
  | none => .bad
  | some en' => (evC cf c en' S).bind fun b S => if b then (evE cf e en' S).bind fun y S => .ok (some y) S else .ok none S
theorem evE_comp {cf : CF} {vs : List Nat} {t : Tg} {kk : Ik} {es : List Ex} {c : Option Ex} {e : Ex} {en : Env} {S S1 : Sto} {ds xs : List D} {w : List (Nat × Option MO)} {r : Re D} (h1 : evEs cf es en S = .ok ds S1) (h2 : walk S1 kk ds = some xs) (h3 : watch S1 ds = w) (hl : xs.length ≤ line)
    (h4 : compLoop (bodyC cf vs t c e en) w xs [] S1 = r) : evE cf (.comp vs t kk es c e) en S = r := by
  rw [evE, h1]
  show (match walk S1 kk ds with | none => (Re.bad : Re D) | some xs => if xs.length ≤ line then compLoop (bodyC cf vs t c e en) (watch S1 ds) xs [] S1 else .bad) = r
  rw [h2, h3]
  dsimp only
  rw [if_pos hl]
  exact h4
/-! loops -/
theorem forLoop_inv {f : D → Env → Sto → Re (Fl × Env)} {w : List (Nat × Option MO)} (Q : Nat → Env → Sto → Prop) : ∀ (xs : List D) (i : Nat) (en : Env) (S : Sto),
    (∀ j x en S, xs[j]? = some x → Q (i + j) en S → ∃ en' S', f x en S = .ok (.nx, en') S' ∧ still S' w = true ∧ Q (i + j + 1) en' S') → Q i en S → ∃ en' S', forLoop f w xs en S = .ok (.nx, en') S' ∧ Q (i + xs.length) en' S'
  | [], i, en, S, _, h => ⟨en, S, rfl, h⟩
  | x :: xs, i, en, S, hs, h => by
    obtain ⟨en1, S1, e1, e2, h1⟩ := hs 0 x en S rfl h
    obtain ⟨en2, S2, e3, h2⟩ := forLoop_inv Q xs (i + 1) en1 S1 (fun j y en S hy hq => by
      have := hs (j + 1) y en S (by simpa using hy) (by rw [show i + (j + 1) = i + 1 + j by omega]; exact hq)
      rw [show i + (j + 1) = i + 1 + j by omega] at this
      exact this) h1
    refine ⟨en2, S2, ?_, ?_⟩
    · rw [forLoop, e1]
      dsimp only
      rw [if_pos e2, e3]
    · rw [List.length_cons, show i + (xs.length + 1) = i + 1 + xs.length by omega]
      exact h2
/-- a loop that folds: the slots by what is held and the last item -/
theorem forLoop_fold {α β : Type} {f : D → Env → Sto → Re (Fl × Env)} {S : Sto} (g : α → D) (en : β → Option α → Env) (step : β → α → β) (Pb : β → Prop) : ∀ (xs : List α) (b : β) (l : Option α), Pb b →
    (∀ b l a, Pb b → a ∈ xs → f (g a) (en b l) S = .ok (.nx, en (step b a) (some a)) S ∧ Pb (step b a)) → ∃ l', forLoop f [] (xs.map g) (en b l) S = .ok (.nx, en (xs.foldl step b) l') S ∧ Pb (xs.foldl step b)
  | [], b, l, h, _ => ⟨l, rfl, h⟩
  | x :: xs, b, l, h, hs => by
    obtain ⟨e, h1⟩ := hs b l x h List.mem_cons_self
    obtain ⟨l', e2, h2⟩ := forLoop_fold g en step Pb xs (step b x) (some x) h1 fun b l a hb ha => hs b l a hb (List.mem_cons_of_mem _ ha)
    refine ⟨l', ?_, h2⟩
    rw [List.map_cons, forLoop, e]
    exact e2
theorem compLoop_map {f : D → Sto → Re (Option D)} {S : Sto} {w : List (Nat × Option MO)} (hw : still S w = true) (g : D → D) : ∀ (xs acc : List D), (∀ x ∈ xs, f x S = .ok (some (g x)) S) → compLoop f w xs acc S = .ok (.lst (acc ++ xs.map g)) S
  | [], acc, _ => by rw [compLoop, List.map_nil, List.append_nil]
  | x :: xs, acc, h => by
    rw [compLoop, h x List.mem_cons_self]
    dsimp only
    rw [if_pos hw, compLoop_map hw g xs _ fun y hy => h y (List.mem_cons_of_mem _ hy), List.map_cons, List.append_assoc]
    rfl
theorem compLoop_inv {f : D → Sto → Re (Option D)} {w : List (Nat × Option MO)} (Q : List D → Sto → Prop) : ∀ (xs acc : List D) (S : Sto), (∀ x acc S, x ∈ xs → Q acc S → ∃ y S', f x S = .ok (some y) S' ∧ still S' w = true ∧ Q (acc ++ [y]) S') → Q acc S →
    ∃ ys S', compLoop f w xs acc S = .ok (.lst (acc ++ ys)) S' ∧ ys.length = xs.length ∧ Q (acc ++ ys) S'
  | [], acc, S, _, h => ⟨[], S, by rw [compLoop, List.append_nil], rfl, by rw [List.append_nil]; exact h⟩
  | x :: xs, acc, S, hs, h => by
    obtain ⟨y, S1, e1, e2, h1⟩ := hs x acc S List.mem_cons_self h
    obtain ⟨ys, S2, e3, hl, h2⟩ := compLoop_inv Q xs (acc ++ [y]) S1 (fun x acc S hx => hs x acc S (List.mem_cons_of_mem _ hx)) h1
    refine ⟨y :: ys, S2, ?_, by rw [List.length_cons, List.length_cons, hl], ?_⟩
    · rw [compLoop, e1]
      dsimp only
      rw [if_pos e2, e3, List.append_assoc]
      rfl
    · rw [List.append_assoc] at h2
      exact h2
/-- a while loop by a measure -/
theorem while_inv {c : Env → Sto → Re D} {f : Env → Sto → Re (Fl × Env)} (Q : Env → Sto → Prop) (μ : Env → Nat) (R : Env → Sto → Prop) (hs : ∀ en S, Q en S → (c en S = .ok (.bl false) S ∧ R en S) ∨ (c en S = .ok (.bl true) S ∧ ∃ en' S', f en S = .ok (.nx, en') S' ∧ Q en' S' ∧ μ en' < μ en)) :
    ∀ (n : Nat) (en : Env) (S : Sto), μ en < n → Q en S → ∃ en' S', whileLoop c f n en S = .ok (.nx, en') S' ∧ R en' S'
  | 0, _, _, h, _ => by omega
  | n + 1, en, S, h, q => by
    rcases hs en S q with ⟨e, r⟩ | ⟨e, en', S', e2, q', hm⟩
    · exact ⟨en, S, by rw [whileLoop, e], r⟩
    · obtain ⟨en2, S2, e3, r⟩ := while_inv Q μ R hs n en' S' (by omega) q'
      exact ⟨en2, S2, by rw [whileLoop, e]; dsimp only; rw [e2]; exact e3, r⟩
end Ly
namespace LyLaw
open PySem PySem.Spec PyProof.Rows L2 Ly
def glob : Glob where
  fns := ["is_whole", "is_tuple_of", "fits_octets", "state_on", "power_of", "text_of", "state_of", "digest_in", "fits_digest", "need_digest", "need_octets", "is_digest", "digest_of", "digest_on", "digest_joined", "_law_cup", "_law_roll", "_law_same", "_law_some", "_law_file", "_law_state", "_law_hex", "_law_digest", "_law_power", "_law_right", "law"]
  consts := [("PRIME", (.int 170141183460469231731687303715884105727)), ("STEP", (.int 2862933555777941757)), ("BEGIN", (.int 7)), ("OCTETS", (.int 200000)), ("MANY", (.int 1000000000000000000)), ("SIZE", (.int 16)), ("HEX", (.str (Str.ofString "0123456789abcdef")))]
  free := ["abs", "all", "bool", "int", "isinstance", "len", "list", "range", "str", "tuple"]
def itemsL : List Item := [
  ⟨"is_whole", 6, ["value", "low", "high"], ["value", "low", "high"], [], false⟩,
  ⟨"is_tuple_of", 7, ["value", "low", "high"], ["value", "low", "high"], [], false⟩,
  ⟨"fits_octets", 8, ["value", "most"], ["value", "most", "one"], [], false⟩,
  ⟨"state_on", 17, ["state", "octets"], ["state", "octets", "octet"], [], false⟩,
  ⟨"power_of", 18, ["many"], ["many", "found", "own"], [], false⟩,
  ⟨"text_of", 19, ["state"], ["state", "found", "turn"], [], false⟩,
  ⟨"state_of", 20, ["digest"], ["digest", "found", "sign"], [], false⟩,
  ⟨"digest_in", 21, ["octets"], ["octets"], [], false⟩,
  ⟨"fits_digest", 22, ["value"], ["value", "sign"], [], false⟩,
  ⟨"need_digest", 23, ["digest"], ["digest"], [], false⟩,
  ⟨"need_octets", 24, ["octets"], ["octets"], [], false⟩,
  ⟨"is_digest", 25, ["value"], ["value"], [], false⟩,
  ⟨"digest_of", 26, ["octets"], ["octets"], [], false⟩,
  ⟨"digest_on", 27, ["digest", "octets"], ["digest", "octets"], [], false⟩,
  ⟨"digest_joined", 28, ["one", "other", "many"], ["one", "other", "many"], [], false⟩,
  ⟨"_law_cup", 30, ["script"], ["script", "cell"], [], true⟩,
  ⟨"_law_roll", 31, ["cup", "many"], ["cup", "many", "deep", "found"], [], false⟩,
  ⟨"_law_same", 32, ["told", "due"], ["told", "due", "at"], [], false⟩,
  ⟨"_law_some", 33, ["cup", "things"], ["cup", "things"], [], false⟩,
  ⟨"_law_file", 34, ["cup", "most"], ["cup", "most", "base", "octet"], [], false⟩,
  ⟨"_law_state", 35, ["octets"], ["octets", "found", "octet"], [], false⟩,
  ⟨"_law_hex", 36, ["state"], ["state", "found", "turn"], [], false⟩,
  ⟨"_law_digest", 37, ["octets"], ["octets"], [], false⟩,
  ⟨"_law_power", 38, ["many"], ["many", "found", "own", "prime"], [], false⟩,
  ⟨"_law_right", 39, ["cup", "most"], ["cup", "most", "octets", "at", "told", "rows", "left", "many", "whole", "due", "cut", "one", "other", "far", "near", "more", "part"], [], false⟩,
  ⟨"law", 40, ["script"], ["script", "cup", "most", "odds", "told", "own", "octet", "odd"], [], false⟩]
abbrev body : List Stmt := PySem.Challenge.pw_layersheld_k18_whole_digests_of_octets.main.body
def progO : Option Prog := mkProg glob body itemsL
end LyLaw

namespace LyLaw
open PySem Ly
def f_is_whole : Fn := ⟨3, 3, [
    .ret (.and_ (.bi .isInt [(.loc 0)]) (.and_ (.not_ (.bi .isBool [(.loc 0)])) (.chain .le .le (.loc 1) (.loc 0) (.loc 2))))]⟩
def f_is_tuple_of : Fn := ⟨3, 3, [
    .ret (.and_ (.bi .isTuple [(.loc 0)]) (.chain .le .le (.loc 1) (.bi .len [(.loc 0)]) (.loc 2)))]⟩
def f_fits_octets : Fn := ⟨2, 3, [
    .ret (.and_ (.call "is_tuple_of" [(.loc 0), (.cst (.int 0)), (.loc 1)]) (.bi .all [(.comp [2] (.nm 2) .ex [(.loc 0)] none (.call "is_whole" [(.loc 2), (.cst (.int 0)), (.cst (.int 255))]))]))]⟩
def f_state_on : Fn := ⟨2, 3, [
    .for_ (.nm 2) .ex [(.loc 1)] [.asg (.nm 0) (.bin .mod (.bin .add (.bin .add (.bin .mul (.loc 0) (.cst (.int 2862933555777941757))) (.loc 2)) (.cst (.int 1))) (.cst (.int 170141183460469231731687303715884105727)))],
    .ret (.loc 0)]⟩
def f_power_of : Fn := ⟨1, 3, [
    .asg (.tup [(.nm 1), (.nm 2)]) (.tup [(.cst (.int 1)), (.cst (.int 2862933555777941757))]),
    .while_ (.cmp .gt (.loc 0) (.cst (.int 0))) [.asg (.tup [(.nm 1), (.nm 2), (.nm 0)]) (.tup [(.ite (.cmp .eq (.bin .mod (.loc 0) (.cst (.int 2))) (.cst (.int 1))) (.bin .mod (.bin .mul (.loc 1) (.loc 2)) (.cst (.int 170141183460469231731687303715884105727))) (.loc 1)), (.bin .mod (.bin .mul (.loc 2) (.loc 2)) (.cst (.int 170141183460469231731687303715884105727))), (.bin .fdiv (.loc 0) (.cst (.int 2)))])],
    .ret (.loc 1)]⟩
def f_text_of : Fn := ⟨1, 3, [
    .asg (.nm 1) (.cst (.str "")),
    .for_ (.nm 2) .range [(.bin .mul (.cst (.int 2)) (.cst (.int 16)))] [.asg (.tup [(.nm 1), (.nm 0)]) (.tup [(.bin .add (.idx (.cst (.str "0123456789abcdef")) (.bin .mod (.loc 0) (.cst (.int 16)))) (.loc 1)), (.bin .fdiv (.loc 0) (.cst (.int 16)))])],
    .ret (.loc 1)]⟩
def f_state_of : Fn := ⟨1, 3, [
    .asg (.nm 1) (.cst (.int 0)),
    .for_ (.nm 2) .ex [(.loc 0)] [.asg (.nm 1) (.bin .add (.bin .mul (.cst (.int 16)) (.loc 1)) (.me .index (.cst (.str "0123456789abcdef")) [(.loc 2)]))],
    .ret (.loc 1)]⟩
def f_digest_in : Fn := ⟨1, 1, [
    .ret (.call "text_of" [(.call "state_on" [(.cst (.int 7)), (.loc 0)])])]⟩
def f_fits_digest : Fn := ⟨1, 2, [
    .ite (.or_ (.not_ (.bi .isStr [(.loc 0)])) (.or_ (.cmp .ne (.bi .len [(.loc 0)]) (.bin .mul (.cst (.int 2)) (.cst (.int 16)))) (.not_ (.bi .all [(.comp [1] (.nm 1) .ex [(.loc 0)] none (.cmp .in_ (.loc 1) (.cst (.str "0123456789abcdef"))))])))) [.ret (.cst (.bl false))] [],
    .ret (.cmp .lt (.call "state_of" [(.loc 0)]) (.cst (.int 170141183460469231731687303715884105727)))]⟩
def f_need_digest : Fn := ⟨1, 1, [
    .ite (.not_ (.call "fits_digest" [(.loc 0)])) [.never] []]⟩
def f_need_octets : Fn := ⟨1, 1, [
    .ite (.not_ (.call "fits_octets" [(.loc 0), (.cst (.int 200000))])) [.never] []]⟩
def f_is_digest : Fn := ⟨1, 1, [
    .ret (.call "fits_digest" [(.loc 0)])]⟩
def f_digest_of : Fn := ⟨1, 1, [
    .ex (.call "need_octets" [(.loc 0)]),
    .ret (.call "digest_in" [(.loc 0)])]⟩
def f_digest_on : Fn := ⟨2, 2, [
    .ex (.call "need_digest" [(.loc 0)]),
    .ex (.call "need_octets" [(.loc 1)]),
    .ret (.call "text_of" [(.call "state_on" [(.call "state_of" [(.loc 0)]), (.loc 1)])])]⟩
def f_digest_joined : Fn := ⟨3, 3, [
    .ex (.call "need_digest" [(.loc 0)]),
    .ex (.call "need_digest" [(.loc 1)]),
    .ite (.not_ (.call "is_whole" [(.loc 2), (.cst (.int 0)), (.cst (.int 1000000000000000000))])) [.never] [],
    .ret (.call "text_of" [(.bin .mod (.bin .add (.call "state_of" [(.loc 1)]) (.bin .mul (.bin .sub (.call "state_of" [(.loc 0)]) (.cst (.int 7))) (.call "power_of" [(.loc 2)]))) (.cst (.int 170141183460469231731687303715884105727)))])]⟩
def f__law_cup : Fn := ⟨1, 2, [
    .asg (.nm 1) (.bi .abs [(.idx (.bin .add (.bi .list [(.loc 0)]) (.lst [(.cst (.int 0))])) (.cst (.int 0)))]),
    .ret (.new [(.ite (.cmp .ge (.loc 1) (.bin .pow (.cst (.int 10)) (.cst (.int 18)))) (.bin .fdiv (.loc 1) (.cst (.int 139))) (.cst (.int 0))), (.bin .add (.bin .mod (.bi .int [(.bin .add (.bin .mul (.loc 1) (.cst (.int 403))) (.cst (.int 4467)))]) (.cst (.int 2077503101))) (.cst (.int 273)))])]⟩
def f__law_roll : Fn := ⟨2, 4, [
    .ite (.cmp .gt (.idx (.loc 0) (.cst (.int 0))) (.cst (.int 0))) [.asg (.nm 3) (.bin .mod (.bi .int [(.idx (.loc 0) (.cst (.int 0)))]) (.loc 1)), .setR (.loc 0) (.cst (.int 0)) (.bin .fdiv (.idx (.loc 0) (.cst (.int 0))) (.loc 1)), .ret (.loc 3)] [],
    .setR (.loc 0) (.cst (.int 1)) (.bin .mod (.bi .int [(.bin .add (.bin .mul (.idx (.loc 0) (.cst (.int 1))) (.cst (.int 31331))) (.cst (.int 8227)))]) (.cst (.int 2147483399))),
    .asg (.nm 2) (.bin .mod (.bi .int [(.bin .mul (.idx (.loc 0) (.cst (.int 1))) (.bin .add (.idx (.loc 0) (.cst (.int 1))) (.cst (.int 405))))]) (.cst (.int 2147483563))),
    .ret (.bin .mod (.bi .int [(.bin .fdiv (.loc 2) (.cst (.int 797)))]) (.loc 1))]⟩
def f__law_same : Fn := ⟨2, 3, [
    .ite (.bi .isTuple [(.loc 1)]) [.ite (.or_ (.not_ (.bi .isTuple [(.loc 0)])) (.cmp .ne (.bi .len [(.loc 0)]) (.bi .len [(.loc 1)]))) [.ret (.cst (.bl false))] [], .ret (.bi .all [(.comp [2] (.nm 2) .range [(.bi .len [(.loc 1)])] none (.call "_law_same" [(.idx (.loc 0) (.loc 2)), (.idx (.loc 1) (.loc 2))]))])] [],
    .ite (.cmp .is_ (.loc 1) (.cst .non)) [.ret (.cmp .is_ (.loc 0) (.cst .non))] [],
    .ite (.bi .isBool [(.loc 1)]) [.ret (.ite (.loc 1) (.cmp .is_ (.loc 0) (.cst (.bl true))) (.cmp .is_ (.loc 0) (.cst (.bl false))))] [],
    .ite (.bi .isInt [(.loc 1)]) [.ret (.and_ (.bi .isInt [(.loc 0)]) (.and_ (.not_ (.bi .isBool [(.loc 0)])) (.cmp .eq (.bi .int [(.loc 0)]) (.loc 1))))] [],
    .ret (.and_ (.bi .isStr [(.loc 0)]) (.cmp .eq (.bi .str [(.loc 0)]) (.loc 1)))]⟩
def f__law_some : Fn := ⟨2, 2, [
    .ret (.idx (.loc 1) (.call "_law_roll" [(.loc 0), (.bi .len [(.loc 1)])]))]⟩
def f__law_file : Fn := ⟨2, 4, [
    .asg (.nm 2) (.call "_law_roll" [(.loc 0), (.cst (.int 256))]),
    .ret (.bi .tuple [(.comp [3] (.nm 3) .range [(.call "_law_roll" [(.loc 0), (.bin .add (.loc 1) (.cst (.int 1)))])] none (.call "_law_some" [(.loc 0), (.lst [(.loc 2), (.loc 2), (.call "_law_roll" [(.loc 0), (.cst (.int 256))])])]))])]⟩
def f__law_state : Fn := ⟨1, 3, [
    .asg (.nm 1) (.cst (.int 7)),
    .for_ (.nm 2) .ex [(.loc 0)] [.asg (.nm 1) (.bin .mod (.bi .int [(.bin .add (.bin .add (.bin .mul (.loc 1) (.cst (.int 2862933555777941757))) (.loc 2)) (.cst (.int 1)))]) (.cst (.int 170141183460469231731687303715884105727)))],
    .ret (.loc 1)]⟩
def f__law_hex : Fn := ⟨1, 3, [
    .asg (.nm 1) (.cst (.str "")),
    .for_ (.nm 2) .range [(.cst (.int 32))] [.asg (.tup [(.nm 1), (.nm 0)]) (.tup [(.bin .add (.idx (.cst (.str "0123456789abcdef")) (.bin .mod (.bi .int [(.loc 0)]) (.cst (.int 16)))) (.loc 1)), (.bin .fdiv (.loc 0) (.cst (.int 16)))])],
    .ret (.loc 1)]⟩
def f__law_digest : Fn := ⟨1, 1, [
    .ret (.call "_law_hex" [(.call "_law_state" [(.loc 0)])])]⟩
def f__law_power : Fn := ⟨1, 4, [
    .asg (.tup [(.nm 1), (.nm 2), (.nm 3)]) (.tup [(.cst (.int 1)), (.cst (.int 2862933555777941757)), (.cst (.int 170141183460469231731687303715884105727))]),
    .while_ (.cmp .gt (.loc 0) (.cst (.int 0))) [.asg (.tup [(.nm 1), (.nm 2), (.nm 0)]) (.tup [(.ite (.cmp .eq (.bin .mod (.bi .int [(.loc 0)]) (.cst (.int 2))) (.cst (.int 1))) (.bin .mod (.bi .int [(.bin .mul (.loc 1) (.loc 2))]) (.loc 3)) (.loc 1)), (.bin .mod (.bi .int [(.bin .mul (.loc 2) (.loc 2))]) (.loc 3)), (.bin .fdiv (.loc 0) (.cst (.int 2)))])],
    .ret (.loc 1)]⟩
def f__law_right : Fn := ⟨2, 17, [
    .asg (.nm 2) (.call "_law_file" [(.loc 0), (.loc 1)]),
    .asg (.tup [(.nm 7), (.nm 8)]) (.tup [(.bi .len [(.loc 2)]), (.bin .mul (.cst (.int 7)) (.call "_law_power" [(.bi .len [(.loc 2)])]))]),
    .for_ (.nm 3) .range [(.loc 7)] [.asg (.nm 8) (.bin .add (.loc 8) (.bin .mul (.bin .add (.idx (.loc 2) (.loc 3)) (.cst (.int 1))) (.call "_law_power" [(.bin .sub (.bin .sub (.loc 7) (.cst (.int 1))) (.loc 3))])))],
    .asg (.tup [(.nm 9), (.nm 10)]) (.tup [(.call "_law_hex" [(.bin .mod (.bi .int [(.loc 8)]) (.cst (.int 170141183460469231731687303715884105727)))]), (.call "_law_roll" [(.loc 0), (.bin .add (.loc 7) (.cst (.int 1)))])]),
    .asg (.tup [(.nm 11), (.nm 12)]) (.tup [(.slc (.loc 2) none (some (.loc 10))), (.slc (.loc 2) (some (.loc 10)) none)]),
    .asg (.nm 4) (.tup [(.call "digest_of" [(.loc 2)]), (.call "digest_on" [(.call "_law_digest" [(.loc 11)]), (.loc 12)]), (.call "digest_joined" [(.call "_law_digest" [(.loc 11)]), (.call "_law_digest" [(.loc 12)]), (.bi .len [(.loc 12)])]), (.call "is_digest" [(.loc 9)])]),
    .ite (.or_ (.not_ (.call "_law_same" [(.loc 4), (.tup [(.loc 9), (.loc 9), (.loc 9), (.cst (.bl true))])])) (.cmp .ne (.loc 9) (.call "_law_digest" [(.loc 2)]))) [.ret (.cst (.bl false))] [],
    .ite (.cmp .ne (.loc 2) (.tup [])) [.asg (.tup [(.nm 3), (.nm 15)]) (.tup [(.call "_law_roll" [(.loc 0), (.loc 7)]), (.bin .add (.cst (.int 1)) (.call "_law_roll" [(.loc 0), (.cst (.int 255))]))]), .ite (.cmp .eq (.call "digest_of" [(.bin .add (.bin .add (.slc (.loc 2) none (some (.loc 3))) (.tup [(.bin .mod (.bi .int [(.bin .add (.idx (.loc 2) (.loc 3)) (.loc 15))]) (.cst (.int 256)))])) (.slc (.loc 2) (some (.bin .add (.loc 3) (.cst (.int 1)))) none))]) (.loc 9)) [.ret (.cst (.bl false))] []] [],
    .asg (.nm 5) (.comp [16] (.nm 16) .range [(.cst (.int 3))] none (.call "_law_hex" [(.call "_law_roll" [(.loc 0), (.cst (.int 170141183460469231731687303715884105727))])])),
    .asg (.tup [(.nm 13), (.nm 14)]) (.tup [(.call "_law_roll" [(.loc 0), (.bin .mul (.cst (.int 5)) (.bin .pow (.cst (.int 10)) (.cst (.int 17))))]), (.call "_law_roll" [(.loc 0), (.bin .mul (.cst (.int 5)) (.bin .pow (.cst (.int 10)) (.cst (.int 17))))])]),
    .asg (.nm 6) (.call "digest_joined" [(.call "digest_joined" [(.idx (.loc 5) (.cst (.int 0))), (.idx (.loc 5) (.cst (.int 1))), (.loc 13)]), (.idx (.loc 5) (.cst (.int 2))), (.loc 14)]),
    .ret (.cmp .eq (.loc 6) (.call "digest_joined" [(.idx (.loc 5) (.cst (.int 0))), (.call "digest_joined" [(.idx (.loc 5) (.cst (.int 1))), (.idx (.loc 5) (.cst (.int 2))), (.loc 14)]), (.bin .add (.loc 13) (.loc 14))]))]⟩
def f_law : Fn := ⟨1, 8, [
    .asg (.nm 1) (.call "_law_cup" [(.loc 0)]),
    .for_ (.nm 2) .ex [(.tup [(.cst (.int 0)), (.cst (.int 5)), (.cst (.int 60)), (.cst (.int 200))])] [.ite (.not_ (.call "_law_right" [(.loc 1), (.loc 2)])) [.ret (.cst (.bl false))] []],
    .asg (.nm 3) (.lst [(.cst .non), (.cst (.str "")), (.bin .mul (.cst (.str "0")) (.cst (.int 31))), (.bin .mul (.cst (.str "0")) (.cst (.int 33))), (.bin .add (.cst (.str "A")) (.bin .mul (.cst (.str "0")) (.cst (.int 31)))), (.bin .add (.cst (.str "g")) (.bin .mul (.cst (.str "0")) (.cst (.int 31)))), (.bin .add (.cst (.str "7")) (.bin .mul (.cst (.str "f")) (.cst (.int 31)))), (.bin .mul (.cst (.str "f")) (.cst (.int 32))), (.cst (.int 5)), (.bin .mul (.tup [(.cst (.str "0"))]) (.cst (.int 32))), (.bin .add (.cst (.str " ")) (.bin .mul (.cst (.str "0")) (.cst (.int 31)))), (.lst [(.bin .mul (.cst (.str "0")) (.cst (.int 32)))])]),
    .ite (.cmp .ne (.comp [7] (.nm 7) .ex [(.loc 3)] (some (.cmp .isnot (.call "is_digest" [(.loc 7)]) (.cst (.bl false)))) (.loc 7)) (.lst [])) [.ret (.cst (.bl false))] [],
    .asg (.tup [(.nm 5), (.nm 6)]) (.tup [(.call "_law_hex" [(.call "_law_roll" [(.loc 1), (.cst (.int 170141183460469231731687303715884105727))])]), (.call "_law_roll" [(.loc 1), (.cst (.int 256))])]),
    .asg (.nm 4) (.tup [(.call "digest_of" [(.tup [])]), (.call "digest_on" [(.loc 5), (.tup [])]), (.call "digest_joined" [(.loc 5), (.call "_law_hex" [(.cst (.int 7))]), (.cst (.int 0))]), (.call "digest_joined" [(.call "_law_hex" [(.cst (.int 7))]), (.loc 5), (.cst (.int 9))]), (.call "digest_of" [(.tup [(.loc 6)])]), (.call "is_digest" [(.bin .add (.bin .add (.cst (.str "7")) (.bin .mul (.cst (.str "f")) (.cst (.int 30)))) (.cst (.str "e")))])]),
    .ret (.call "_law_same" [(.loc 4), (.tup [(.bin .add (.bin .mul (.cst (.str "0")) (.cst (.int 31))) (.cst (.str "7"))), (.loc 5), (.loc 5), (.loc 5), (.call "_law_hex" [(.bin .add (.bin .add (.bin .mul (.cst (.int 7)) (.cst (.int 2862933555777941757))) (.loc 6)) (.cst (.int 1)))]), (.cst (.bl true))])])]⟩
def prog : Prog := [
  ("is_whole", f_is_whole),
  ("is_tuple_of", f_is_tuple_of),
  ("fits_octets", f_fits_octets),
  ("state_on", f_state_on),
  ("power_of", f_power_of),
  ("text_of", f_text_of),
  ("state_of", f_state_of),
  ("digest_in", f_digest_in),
  ("fits_digest", f_fits_digest),
  ("need_digest", f_need_digest),
  ("need_octets", f_need_octets),
  ("is_digest", f_is_digest),
  ("digest_of", f_digest_of),
  ("digest_on", f_digest_on),
  ("digest_joined", f_digest_joined),
  ("_law_cup", f__law_cup),
  ("_law_roll", f__law_roll),
  ("_law_same", f__law_same),
  ("_law_some", f__law_some),
  ("_law_file", f__law_file),
  ("_law_state", f__law_state),
  ("_law_hex", f__law_hex),
  ("_law_digest", f__law_digest),
  ("_law_power", f__law_power),
  ("_law_right", f__law_right),
  ("law", f_law)]


end LyLaw
namespace LyLaw
open PySem Ly
theorem eq_prog : progO = some prog := by kernel_rfl
abbrev STEPc : Int := 2862933555777941757
abbrev PR : Int := 170141183460469231731687303715884105727
theorem kk {n k : Nat} (h : n + 1 ≤ k) : ∃ j, k = j + 1 ∧ n ≤ j := ⟨k - 1, by omega, by omega⟩
theorem r_is_whole {k : Nat} (hk : 1 ≤ k) (v a b : Int) (S : Sto) : callP prog k "is_whole" [.int v, .int a, .int b] S = .ok (.bl (decide (a ≤ v) && decide (v ≤ b))) S := by
  obtain ⟨k, rfl, _⟩ := kk hk
  refine call_ret (fn := f_is_whole) (en' := [some (.int v), some (.int a), some (.int b)]) rfl rfl ?_
  simp only [f_is_whole, evSs, evS.eq_1, evS.eq_2, evS.eq_3, evS.eq_4, evS.eq_5, evS.eq_6, evS.eq_7, evS.eq_8, evS.eq_9, evS.eq_10, evS.eq_11, evE.eq_1, evE.eq_2, evE.eq_3, evE.eq_4, evE.eq_5, evE.eq_6, evE.eq_7, evE.eq_8, evE.eq_9, evE.eq_10, evE.eq_11, evE.eq_12, evE.eq_13, evE.eq_14, evE.eq_15, evE.eq_16, evE.eq_17, evE.eq_18, evE.eq_19, evEs, evO, evC, Re.bind, lift, builtin, binop, cmpop, view, isScalar, Tg.put, Tg.puts, List.set_cons_zero, List.set_cons_succ, List.getElem?_cons_zero, List.getElem?_cons_succ, List.map_cons, List.map_nil, List.cons_append, List.nil_append, List.replicate_succ, List.replicate_zero, Option.map_some, Option.map_none, Option.bind_some, if_true, if_false, Bool.not_true, Bool.not_false, Nat.sub_self, List.length_cons, List.length_nil, Bool.false_eq_true, reduceCtorEq, decide_true, decide_false, Int.reduceLT, Int.reduceLE, Int.reduceEq, Nat.reduceLeDiff, Nat.reduceAdd, eqOk_ii, eqv_ii, eqOk_ss, eqv_ss, ltOk_ii, lt_ii, l1, l2, l3, l4, Nat.zero_add, eq_self,  Bool.and_self, Bool.and_true, Bool.true_and, List.append_nil]
  by_cases h : a ≤ v
  · simp only [h, decide_true, Bool.true_and]
  · simp [h]
/-! ### sums -/
def nxt (s o : Int) : Int := (s * STEPc + o + 1) % PR
def stOn (s : Int) (os : List Int) : Int := os.foldl nxt s
theorem mul_step (s : Int) : mulOk s 2862933555777941757 = true := by
  unfold mulOk
  rw [show decide ((2862933555777941757 : Int).natAbs < 2 ^ 64) = true by decide]
  simp
theorem r_state_on {k : Nat} (hk : 1 ≤ k) (s : Int) (os : List Int) (S : Sto) : callP prog k "state_on" [.int s, .tup (os.map .int)] S = .ok (.int (stOn s os)) S := by
  obtain ⟨k, rfl, _⟩ := kk hk
  obtain ⟨l, e, _⟩ := forLoop_fold (S := S) (f := bodyF (callP prog k) (.nm 2) [.asg (.nm 0) (.bin .mod (.bin .add (.bin .add (.bin .mul (.loc 0) (.cst (.int 2862933555777941757))) (.loc 2)) (.cst (.int 1))) (.cst (.int 170141183460469231731687303715884105727)))])
    D.int (fun b l => [some (.int b), some (.tup (os.map .int)), l.map .int]) nxt (fun _ => True) os s none trivial fun b l a _ _ => by
      refine ⟨?_, trivial⟩
      simp only [bodyF, evSs, evS.eq_1, evS.eq_2, evS.eq_3, evS.eq_4, evS.eq_5, evS.eq_6, evS.eq_7, evS.eq_8, evS.eq_9, evS.eq_10, evS.eq_11, evE.eq_1, evE.eq_2, evE.eq_3, evE.eq_4, evE.eq_5, evE.eq_6, evE.eq_7, evE.eq_8, evE.eq_9, evE.eq_10, evE.eq_11, evE.eq_12, evE.eq_13, evE.eq_14, evE.eq_15, evE.eq_16, evE.eq_17, evE.eq_18, evE.eq_19, evEs, evO, evC, Re.bind, lift, builtin, binop, cmpop, view, isScalar, Tg.put, Tg.puts, List.set_cons_zero, List.set_cons_succ, List.getElem?_cons_zero, List.getElem?_cons_succ, List.map_cons, List.map_nil, List.cons_append, List.nil_append, List.replicate_succ, List.replicate_zero, Option.map_some, Option.map_none, Option.bind_some, if_true, if_false, Bool.not_true, Bool.not_false, Nat.sub_self, List.length_cons, List.length_nil, Bool.false_eq_true, reduceCtorEq, decide_true, decide_false, Int.reduceLT, Int.reduceLE, Int.reduceEq, Nat.reduceLeDiff, Nat.reduceAdd, eqOk_ii, eqv_ii, eqOk_ss, eqv_ss, ltOk_ii, lt_ii, l1, l2, l3, l4, Nat.zero_add, eq_self,  Bool.and_self, Bool.and_true, Bool.true_and, List.append_nil, mul_step]
      rfl
  refine call_ret (fn := f_state_on) (en' := [some (.int (stOn s os)), some (.tup (os.map .int)), l.map .int]) rfl rfl ?_
  simp only [f_state_on]
  refine (evSs_nx (S1 := S) (en1 := [some (.int (stOn s os)), some (.tup (os.map .int)), l.map .int]) ?_).trans ?_
  · exact evS_for (S1 := S) (ds := [.tup (os.map .int)]) (by simp only [evSs, evS.eq_1, evS.eq_2, evS.eq_3, evS.eq_4, evS.eq_5, evS.eq_6, evS.eq_7, evS.eq_8, evS.eq_9, evS.eq_10, evS.eq_11, evE.eq_1, evE.eq_2, evE.eq_3, evE.eq_4, evE.eq_5, evE.eq_6, evE.eq_7, evE.eq_8, evE.eq_9, evE.eq_10, evE.eq_11, evE.eq_12, evE.eq_13, evE.eq_14, evE.eq_15, evE.eq_16, evE.eq_17, evE.eq_18, evE.eq_19, evEs, evO, evC, Re.bind, lift, builtin, binop, cmpop, view, isScalar, Tg.put, Tg.puts, List.set_cons_zero, List.set_cons_succ, List.getElem?_cons_zero, List.getElem?_cons_succ, List.map_cons, List.map_nil, List.cons_append, List.nil_append, List.replicate_succ, List.replicate_zero, Option.map_some, Option.map_none, Option.bind_some, if_true, if_false, Bool.not_true, Bool.not_false, Nat.sub_self, List.length_cons, List.length_nil, Bool.false_eq_true, reduceCtorEq, decide_true, decide_false, Int.reduceLT, Int.reduceLE, Int.reduceEq, Nat.reduceLeDiff, Nat.reduceAdd, eqOk_ii, eqv_ii, eqOk_ss, eqv_ss, ltOk_ii, lt_ii, l1, l2, l3, l4, Nat.zero_add, eq_self,  Bool.and_self, Bool.and_true, Bool.true_and, List.append_nil]) rfl rfl e
  · simp only [evSs, evS.eq_1, evS.eq_2, evS.eq_3, evS.eq_4, evS.eq_5, evS.eq_6, evS.eq_7, evS.eq_8, evS.eq_9, evS.eq_10, evS.eq_11, evE.eq_1, evE.eq_2, evE.eq_3, evE.eq_4, evE.eq_5, evE.eq_6, evE.eq_7, evE.eq_8, evE.eq_9, evE.eq_10, evE.eq_11, evE.eq_12, evE.eq_13, evE.eq_14, evE.eq_15, evE.eq_16, evE.eq_17, evE.eq_18, evE.eq_19, evEs, evO, evC, Re.bind, lift, builtin, binop, cmpop, view, isScalar, Tg.put, Tg.puts, List.set_cons_zero, List.set_cons_succ, List.getElem?_cons_zero, List.getElem?_cons_succ, List.map_cons, List.map_nil, List.cons_append, List.nil_append, List.replicate_succ, List.replicate_zero, Option.map_some, Option.map_none, Option.bind_some, if_true, if_false, Bool.not_true, Bool.not_false, Nat.sub_self, List.length_cons, List.length_nil, Bool.false_eq_true, reduceCtorEq, decide_true, decide_false, Int.reduceLT, Int.reduceLE, Int.reduceEq, Nat.reduceLeDiff, Nat.reduceAdd, eqOk_ii, eqv_ii, eqOk_ss, eqv_ss, ltOk_ii, lt_ii, l1, l2, l3, l4, Nat.zero_add, eq_self,  Bool.and_self, Bool.and_true, Bool.true_and, List.append_nil]
theorem r_law_state {k : Nat} (hk : 1 ≤ k) (os : List Int) (S : Sto) : callP prog k "_law_state" [.tup (os.map .int)] S = .ok (.int (stOn 7 os)) S := by
  obtain ⟨k, rfl, _⟩ := kk hk
  obtain ⟨l, e, _⟩ := forLoop_fold (S := S) (f := bodyF (callP prog k) (.nm 2) [.asg (.nm 1) (.bin .mod (.bi .int [(.bin .add (.bin .add (.bin .mul (.loc 1) (.cst (.int 2862933555777941757))) (.loc 2)) (.cst (.int 1)))]) (.cst (.int 170141183460469231731687303715884105727)))])
    D.int (fun b l => [some (.tup (os.map .int)), some (.int b), l.map .int]) nxt (fun _ => True) os 7 none trivial fun b l a _ _ => by
      refine ⟨?_, trivial⟩
      simp only [bodyF, evSs, evS.eq_1, evS.eq_2, evS.eq_3, evS.eq_4, evS.eq_5, evS.eq_6, evS.eq_7, evS.eq_8, evS.eq_9, evS.eq_10, evS.eq_11, evE.eq_1, evE.eq_2, evE.eq_3, evE.eq_4, evE.eq_5, evE.eq_6, evE.eq_7, evE.eq_8, evE.eq_9, evE.eq_10, evE.eq_11, evE.eq_12, evE.eq_13, evE.eq_14, evE.eq_15, evE.eq_16, evE.eq_17, evE.eq_18, evE.eq_19, evEs, evO, evC, Re.bind, lift, builtin, binop, cmpop, view, isScalar, Tg.put, Tg.puts, List.set_cons_zero, List.set_cons_succ, List.getElem?_cons_zero, List.getElem?_cons_succ, List.map_cons, List.map_nil, List.cons_append, List.nil_append, List.replicate_succ, List.replicate_zero, Option.map_some, Option.map_none, Option.bind_some, if_true, if_false, Bool.not_true, Bool.not_false, Nat.sub_self, List.length_cons, List.length_nil, Bool.false_eq_true, reduceCtorEq, decide_true, decide_false, Int.reduceLT, Int.reduceLE, Int.reduceEq, Nat.reduceLeDiff, Nat.reduceAdd, eqOk_ii, eqv_ii, eqOk_ss, eqv_ss, ltOk_ii, lt_ii, l1, l2, l3, l4, Nat.zero_add, eq_self,  Bool.and_self, Bool.and_true, Bool.true_and, List.append_nil, mul_step]
      rfl
  refine call_ret (fn := f__law_state) (en' := [some (.tup (os.map .int)), some (.int (stOn 7 os)), l.map .int]) rfl rfl ?_
  simp only [f__law_state]
  refine (evSs_nx (S1 := S) (en1 := [some (.tup (os.map .int)), some (.int 7), none]) ?_).trans ?_
  · simp only [evSs, evS.eq_1, evS.eq_2, evS.eq_3, evS.eq_4, evS.eq_5, evS.eq_6, evS.eq_7, evS.eq_8, evS.eq_9, evS.eq_10, evS.eq_11, evE.eq_1, evE.eq_2, evE.eq_3, evE.eq_4, evE.eq_5, evE.eq_6, evE.eq_7, evE.eq_8, evE.eq_9, evE.eq_10, evE.eq_11, evE.eq_12, evE.eq_13, evE.eq_14, evE.eq_15, evE.eq_16, evE.eq_17, evE.eq_18, evE.eq_19, evEs, evO, evC, Re.bind, lift, builtin, binop, cmpop, view, isScalar, Tg.put, Tg.puts, List.set_cons_zero, List.set_cons_succ, List.getElem?_cons_zero, List.getElem?_cons_succ, List.map_cons, List.map_nil, List.cons_append, List.nil_append, List.replicate_succ, List.replicate_zero, Option.map_some, Option.map_none, Option.bind_some, if_true, if_false, Bool.not_true, Bool.not_false, Nat.sub_self, List.length_cons, List.length_nil, Bool.false_eq_true, reduceCtorEq, decide_true, decide_false, Int.reduceLT, Int.reduceLE, Int.reduceEq, Nat.reduceLeDiff, Nat.reduceAdd, eqOk_ii, eqv_ii, eqOk_ss, eqv_ss, ltOk_ii, lt_ii, l1, l2, l3, l4, Nat.zero_add, eq_self,  Bool.and_self, Bool.and_true, Bool.true_and, List.append_nil]
  refine (evSs_nx (S1 := S) (en1 := [some (.tup (os.map .int)), some (.int (stOn 7 os)), l.map .int]) ?_).trans ?_
  · exact evS_for (S1 := S) (ds := [.tup (os.map .int)]) (by simp only [evSs, evS.eq_1, evS.eq_2, evS.eq_3, evS.eq_4, evS.eq_5, evS.eq_6, evS.eq_7, evS.eq_8, evS.eq_9, evS.eq_10, evS.eq_11, evE.eq_1, evE.eq_2, evE.eq_3, evE.eq_4, evE.eq_5, evE.eq_6, evE.eq_7, evE.eq_8, evE.eq_9, evE.eq_10, evE.eq_11, evE.eq_12, evE.eq_13, evE.eq_14, evE.eq_15, evE.eq_16, evE.eq_17, evE.eq_18, evE.eq_19, evEs, evO, evC, Re.bind, lift, builtin, binop, cmpop, view, isScalar, Tg.put, Tg.puts, List.set_cons_zero, List.set_cons_succ, List.getElem?_cons_zero, List.getElem?_cons_succ, List.map_cons, List.map_nil, List.cons_append, List.nil_append, List.replicate_succ, List.replicate_zero, Option.map_some, Option.map_none, Option.bind_some, if_true, if_false, Bool.not_true, Bool.not_false, Nat.sub_self, List.length_cons, List.length_nil, Bool.false_eq_true, reduceCtorEq, decide_true, decide_false, Int.reduceLT, Int.reduceLE, Int.reduceEq, Nat.reduceLeDiff, Nat.reduceAdd, eqOk_ii, eqv_ii, eqOk_ss, eqv_ss, ltOk_ii, lt_ii, l1, l2, l3, l4, Nat.zero_add, eq_self,  Bool.and_self, Bool.and_true, Bool.true_and, List.append_nil]) rfl rfl e
  · simp only [evSs, evS.eq_1, evS.eq_2, evS.eq_3, evS.eq_4, evS.eq_5, evS.eq_6, evS.eq_7, evS.eq_8, evS.eq_9, evS.eq_10, evS.eq_11, evE.eq_1, evE.eq_2, evE.eq_3, evE.eq_4, evE.eq_5, evE.eq_6, evE.eq_7, evE.eq_8, evE.eq_9, evE.eq_10, evE.eq_11, evE.eq_12, evE.eq_13, evE.eq_14, evE.eq_15, evE.eq_16, evE.eq_17, evE.eq_18, evE.eq_19, evEs, evO, evC, Re.bind, lift, builtin, binop, cmpop, view, isScalar, Tg.put, Tg.puts, List.set_cons_zero, List.set_cons_succ, List.getElem?_cons_zero, List.getElem?_cons_succ, List.map_cons, List.map_nil, List.cons_append, List.nil_append, List.replicate_succ, List.replicate_zero, Option.map_some, Option.map_none, Option.bind_some, if_true, if_false, Bool.not_true, Bool.not_false, Nat.sub_self, List.length_cons, List.length_nil, Bool.false_eq_true, reduceCtorEq, decide_true, decide_false, Int.reduceLT, Int.reduceLE, Int.reduceEq, Nat.reduceLeDiff, Nat.reduceAdd, eqOk_ii, eqv_ii, eqOk_ss, eqv_ss, ltOk_ii, lt_ii, l1, l2, l3, l4, Nat.zero_add, eq_self,  Bool.and_self, Bool.and_true, Bool.true_and, List.append_nil]
/-! ### texts of digits -/
def HEXc : Str := "0123456789abcdef"
def sg (d : Nat) : Nat := HEXc.cps.toList.getD d 0
def tx (ds : List Nat) : Str := ⟨(ds.map sg).toArray⟩
def dg : Nat → Int → List Nat
  | 0, _ => []
  | n + 1, s => dg n (s / 16) ++ [(s % 16).toNat]
theorem dg_len : ∀ n s, (dg n s).length = n
  | 0, _ => rfl
  | n + 1, s => by rw [dg, List.length_append, dg_len n]; rfl
theorem dg_lt : ∀ n s d, d ∈ dg n s → d < 16
  | 0, _, _, h => by cases h
  | n + 1, s, d, h => by
    rcases List.mem_append.mp h with h | h
    · exact dg_lt n _ d h
    · rw [List.mem_singleton.mp h]; omega
theorem ix_sign {d : Int} (h0 : 0 ≤ d) (h : d < 16) : idx (.str "0123456789abcdef") (.int d) = some (.str (tx [d.toNat])) := by
  obtain ⟨n, rfl⟩ := Int.eq_ofNat_of_zero_le h0
  have h : n < 16 := by omega
  have : ∀ n : Fin 16, idx (.str "0123456789abcdef") (.int (n.val : Int)) = some (.str (tx [n.val])) := by decide +kernel
  exact this ⟨n, h⟩
theorem tx_app (a b : List Nat) : tx a ++ tx b = tx (a ++ b) := by
  show (⟨(tx a).cps ++ (tx b).cps⟩ : Str) = _
  unfold tx
  rw [List.map_append]
  simp
theorem tx_len (a : List Nat) : (tx a).length = a.length := by
  show (tx a).cps.size = _
  simp [tx]
theorem m16 (s : Int) : 0 ≤ s % 16 ∧ s % 16 < 16 := by omega
theorem dv16 : divOk 16 = true := by decide +kernel
/-- n turns of the text's loop -/
theorem hex_turns {cf : CF} {bd : List St} {S : Sto} (hb : ∀ (s : Int) (acc : Str) (l : Option D) (x : D), acc.length < 100 → evSs cf bd [some (.int s), some (.str acc), some x] S = .ok (.nx, [some (.int (s / 16)), some (.str (tx [(s % 16).toNat] ++ acc)), some x]) S) :
    ∀ (xs : List D) (s : Int) (acc : List Nat) (l : Option D), xs.length + acc.length ≤ 60 → ∃ l', forLoop (bodyF cf (.nm 2) bd) [] xs [some (.int s), some (.str (tx acc)), l] S = .ok (.nx, [some (.int (s / 16 ^ xs.length)), some (.str (tx (dg xs.length s ++ acc))), l']) S
  | [], s, acc, l, _ => ⟨l, by rw [forLoop]; simp [dg]⟩
  | x :: xs, s, acc, l, h => by
    rw [List.length_cons] at h
    obtain ⟨l', e⟩ := hex_turns hb xs (s / 16) ((s % 16).toNat :: acc) (some x) (by rw [List.length_cons]; omega)
    refine ⟨l', ?_⟩
    rw [forLoop]
    simp only [bodyF, Tg.put, List.set_cons_zero, List.set_cons_succ]
    rw [hb s (tx acc) l x (by rw [tx_len]; omega)]
    simp only [still, List.all_nil, if_true]
    rw [tx_app]
    refine e.trans ?_
    rw [List.length_cons, dg]
    have e1 : s / 16 / 16 ^ xs.length = s / 16 ^ (xs.length + 1) := by
      rw [Int.ediv_ediv_of_nonneg (by omega), Int.pow_succ, Int.mul_comm]
    rw [e1, List.append_assoc]
    rfl
theorem walk_rng {S : Sto} {j : Int} (h : 0 ≤ j) (h2 : j ≤ 16777216) : walk S .range [.int j] = some (rangeD 0 j) := by
  have e1 : intOk j = true := by unfold intOk; simp; omega
  have e2 : (rangeD 0 j).length ≤ line := by simp [rangeD, line]; omega
  simp only [walk, rangeOf, e1, if_true, Option.bind_some, e2]
theorem rng_len {j : Int} : (rangeD 0 j).length = j.toNat := by simp [rangeD]
theorem ix_sign' (s : Int) : idx (.str "0123456789abcdef") (.int (s % 16)) = some (.str (tx [(s % 16).toNat])) := ix_sign (m16 s).1 (m16 s).2
theorem len_one (d : Nat) : (tx [d]).length = 1 := by rw [tx_len]; rfl
theorem sz {a : Nat} (h : a < 100) : 1 + a ≤ line := by unfold line; omega
def text (s : Int) : Str := tx (dg 32 s)
theorem r_text_of {k : Nat} (hk : 1 ≤ k) (s : Int) (S : Sto) : callP prog k "text_of" [.int s] S = .ok (.str (text s)) S := by
  obtain ⟨k, rfl, _⟩ := kk hk
  obtain ⟨l, e⟩ := hex_turns (cf := callP prog k) (S := S) (bd := [.asg (.tup [(.nm 1), (.nm 0)]) (.tup [(.bin .add (.idx (.cst (.str "0123456789abcdef")) (.bin .mod (.loc 0) (.cst (.int 16)))) (.loc 1)), (.bin .fdiv (.loc 0) (.cst (.int 16)))])]) (fun s acc l x h => by
    have h1 := sz h
    simp only [evSs, evS.eq_1, evS.eq_2, evS.eq_3, evS.eq_4, evS.eq_5, evS.eq_6, evS.eq_7, evS.eq_8, evS.eq_9, evS.eq_10, evS.eq_11, evE.eq_1, evE.eq_2, evE.eq_3, evE.eq_4, evE.eq_5, evE.eq_6, evE.eq_7, evE.eq_8, evE.eq_9, evE.eq_10, evE.eq_11, evE.eq_12, evE.eq_13, evE.eq_14, evE.eq_15, evE.eq_16, evE.eq_17, evE.eq_18, evE.eq_19, evEs, evO, evC, Re.bind, lift, builtin, binop, cmpop, view, isScalar, Tg.put, Tg.puts, List.set_cons_zero, List.set_cons_succ, List.getElem?_cons_zero, List.getElem?_cons_succ, List.map_cons, List.map_nil, List.cons_append, List.nil_append, List.replicate_succ, List.replicate_zero, Option.map_some, Option.map_none, Option.bind_some, if_true, if_false, Bool.not_true, Bool.not_false, Nat.sub_self, List.length_cons, List.length_nil, Bool.false_eq_true, reduceCtorEq, decide_true, decide_false, Int.reduceLT, Int.reduceLE, Int.reduceEq, Nat.reduceLeDiff, Nat.reduceAdd, eqOk_ii, eqv_ii, eqOk_ss, eqv_ss, ltOk_ii, lt_ii, l1, l2, l3, l4, Nat.zero_add, eq_self,  Bool.and_self, Bool.and_true, Bool.true_and, List.append_nil, ix_sign', len_one, h1, dv16]) (rangeD 0 32) s [] none (by simp [rangeD])
  refine call_ret (fn := f_text_of) (en' := [some (.int (s / 16 ^ (rangeD 0 32).length)), some (.str (text s)), l]) rfl rfl ?_
  simp only [f_text_of]
  refine (evSs_nx (S1 := S) (en1 := [some (.int s), some (.str (tx [])), none]) ?_).trans ?_
  · simp only [evSs, evS.eq_1, evS.eq_2, evS.eq_3, evS.eq_4, evS.eq_5, evS.eq_6, evS.eq_7, evS.eq_8, evS.eq_9, evS.eq_10, evS.eq_11, evE.eq_1, evE.eq_2, evE.eq_3, evE.eq_4, evE.eq_5, evE.eq_6, evE.eq_7, evE.eq_8, evE.eq_9, evE.eq_10, evE.eq_11, evE.eq_12, evE.eq_13, evE.eq_14, evE.eq_15, evE.eq_16, evE.eq_17, evE.eq_18, evE.eq_19, evEs, evO, evC, Re.bind, lift, builtin, binop, cmpop, view, isScalar, Tg.put, Tg.puts, List.set_cons_zero, List.set_cons_succ, List.getElem?_cons_zero, List.getElem?_cons_succ, List.map_cons, List.map_nil, List.cons_append, List.nil_append, List.replicate_succ, List.replicate_zero, Option.map_some, Option.map_none, Option.bind_some, if_true, if_false, Bool.not_true, Bool.not_false, Nat.sub_self, List.length_cons, List.length_nil, Bool.false_eq_true, reduceCtorEq, decide_true, decide_false, Int.reduceLT, Int.reduceLE, Int.reduceEq, Nat.reduceLeDiff, Nat.reduceAdd, eqOk_ii, eqv_ii, eqOk_ss, eqv_ss, ltOk_ii, lt_ii, l1, l2, l3, l4, Nat.zero_add, eq_self,  Bool.and_self, Bool.and_true, Bool.true_and, List.append_nil]; rfl
  refine (evSs_nx (S1 := S) (en1 := [some (.int (s / 16 ^ (rangeD 0 32).length)), some (.str (text s)), l]) ?_).trans ?_
  · refine evS_for (S1 := S) (ds := [.int 32]) (by simp only [evSs, evS.eq_1, evS.eq_2, evS.eq_3, evS.eq_4, evS.eq_5, evS.eq_6, evS.eq_7, evS.eq_8, evS.eq_9, evS.eq_10, evS.eq_11, evE.eq_1, evE.eq_2, evE.eq_3, evE.eq_4, evE.eq_5, evE.eq_6, evE.eq_7, evE.eq_8, evE.eq_9, evE.eq_10, evE.eq_11, evE.eq_12, evE.eq_13, evE.eq_14, evE.eq_15, evE.eq_16, evE.eq_17, evE.eq_18, evE.eq_19, evEs, evO, evC, Re.bind, lift, builtin, binop, cmpop, view, isScalar, Tg.put, Tg.puts, List.set_cons_zero, List.set_cons_succ, List.getElem?_cons_zero, List.getElem?_cons_succ, List.map_cons, List.map_nil, List.cons_append, List.nil_append, List.replicate_succ, List.replicate_zero, Option.map_some, Option.map_none, Option.bind_some, if_true, if_false, Bool.not_true, Bool.not_false, Nat.sub_self, List.length_cons, List.length_nil, Bool.false_eq_true, reduceCtorEq, decide_true, decide_false, Int.reduceLT, Int.reduceLE, Int.reduceEq, Nat.reduceLeDiff, Nat.reduceAdd, eqOk_ii, eqv_ii, eqOk_ss, eqv_ss, ltOk_ii, lt_ii, l1, l2, l3, l4, Nat.zero_add, eq_self,  Bool.and_self, Bool.and_true, Bool.true_and, List.append_nil, show mulOk 2 16 = true by decide +kernel]; rfl) (walk_rng (by omega) (by omega)) rfl (e.trans ?_)
    rw [rng_len, List.append_nil]
    rfl
  · simp only [evSs, evS.eq_1, evS.eq_2, evS.eq_3, evS.eq_4, evS.eq_5, evS.eq_6, evS.eq_7, evS.eq_8, evS.eq_9, evS.eq_10, evS.eq_11, evE.eq_1, evE.eq_2, evE.eq_3, evE.eq_4, evE.eq_5, evE.eq_6, evE.eq_7, evE.eq_8, evE.eq_9, evE.eq_10, evE.eq_11, evE.eq_12, evE.eq_13, evE.eq_14, evE.eq_15, evE.eq_16, evE.eq_17, evE.eq_18, evE.eq_19, evEs, evO, evC, Re.bind, lift, builtin, binop, cmpop, view, isScalar, Tg.put, Tg.puts, List.set_cons_zero, List.set_cons_succ, List.getElem?_cons_zero, List.getElem?_cons_succ, List.map_cons, List.map_nil, List.cons_append, List.nil_append, List.replicate_succ, List.replicate_zero, Option.map_some, Option.map_none, Option.bind_some, if_true, if_false, Bool.not_true, Bool.not_false, Nat.sub_self, List.length_cons, List.length_nil, Bool.false_eq_true, reduceCtorEq, decide_true, decide_false, Int.reduceLT, Int.reduceLE, Int.reduceEq, Nat.reduceLeDiff, Nat.reduceAdd, eqOk_ii, eqv_ii, eqOk_ss, eqv_ss, ltOk_ii, lt_ii, l1, l2, l3, l4, Nat.zero_add, eq_self,  Bool.and_self, Bool.and_true, Bool.true_and, List.append_nil]
theorem r_law_hex {k : Nat} (hk : 1 ≤ k) (s : Int) (S : Sto) : callP prog k "_law_hex" [.int s] S = .ok (.str (text s)) S := by
  obtain ⟨k, rfl, _⟩ := kk hk
  obtain ⟨l, e⟩ := hex_turns (cf := callP prog k) (S := S) (bd := [.asg (.tup [(.nm 1), (.nm 0)]) (.tup [(.bin .add (.idx (.cst (.str "0123456789abcdef")) (.bin .mod (.bi .int [(.loc 0)]) (.cst (.int 16)))) (.loc 1)), (.bin .fdiv (.loc 0) (.cst (.int 16)))])]) (fun s acc l x h => by
    have h1 := sz h
    simp only [evSs, evS.eq_1, evS.eq_2, evS.eq_3, evS.eq_4, evS.eq_5, evS.eq_6, evS.eq_7, evS.eq_8, evS.eq_9, evS.eq_10, evS.eq_11, evE.eq_1, evE.eq_2, evE.eq_3, evE.eq_4, evE.eq_5, evE.eq_6, evE.eq_7, evE.eq_8, evE.eq_9, evE.eq_10, evE.eq_11, evE.eq_12, evE.eq_13, evE.eq_14, evE.eq_15, evE.eq_16, evE.eq_17, evE.eq_18, evE.eq_19, evEs, evO, evC, Re.bind, lift, builtin, binop, cmpop, view, isScalar, Tg.put, Tg.puts, List.set_cons_zero, List.set_cons_succ, List.getElem?_cons_zero, List.getElem?_cons_succ, List.map_cons, List.map_nil, List.cons_append, List.nil_append, List.replicate_succ, List.replicate_zero, Option.map_some, Option.map_none, Option.bind_some, if_true, if_false, Bool.not_true, Bool.not_false, Nat.sub_self, List.length_cons, List.length_nil, Bool.false_eq_true, reduceCtorEq, decide_true, decide_false, Int.reduceLT, Int.reduceLE, Int.reduceEq, Nat.reduceLeDiff, Nat.reduceAdd, eqOk_ii, eqv_ii, eqOk_ss, eqv_ss, ltOk_ii, lt_ii, l1, l2, l3, l4, Nat.zero_add, eq_self,  Bool.and_self, Bool.and_true, Bool.true_and, List.append_nil, ix_sign', len_one, h1, dv16]) (rangeD 0 32) s [] none (by simp [rangeD])
  refine call_ret (fn := f__law_hex) (en' := [some (.int (s / 16 ^ (rangeD 0 32).length)), some (.str (text s)), l]) rfl rfl ?_
  simp only [f__law_hex]
  refine (evSs_nx (S1 := S) (en1 := [some (.int s), some (.str (tx [])), none]) ?_).trans ?_
  · simp only [evSs, evS.eq_1, evS.eq_2, evS.eq_3, evS.eq_4, evS.eq_5, evS.eq_6, evS.eq_7, evS.eq_8, evS.eq_9, evS.eq_10, evS.eq_11, evE.eq_1, evE.eq_2, evE.eq_3, evE.eq_4, evE.eq_5, evE.eq_6, evE.eq_7, evE.eq_8, evE.eq_9, evE.eq_10, evE.eq_11, evE.eq_12, evE.eq_13, evE.eq_14, evE.eq_15, evE.eq_16, evE.eq_17, evE.eq_18, evE.eq_19, evEs, evO, evC, Re.bind, lift, builtin, binop, cmpop, view, isScalar, Tg.put, Tg.puts, List.set_cons_zero, List.set_cons_succ, List.getElem?_cons_zero, List.getElem?_cons_succ, List.map_cons, List.map_nil, List.cons_append, List.nil_append, List.replicate_succ, List.replicate_zero, Option.map_some, Option.map_none, Option.bind_some, if_true, if_false, Bool.not_true, Bool.not_false, Nat.sub_self, List.length_cons, List.length_nil, Bool.false_eq_true, reduceCtorEq, decide_true, decide_false, Int.reduceLT, Int.reduceLE, Int.reduceEq, Nat.reduceLeDiff, Nat.reduceAdd, eqOk_ii, eqv_ii, eqOk_ss, eqv_ss, ltOk_ii, lt_ii, l1, l2, l3, l4, Nat.zero_add, eq_self,  Bool.and_self, Bool.and_true, Bool.true_and, List.append_nil]; rfl
  refine (evSs_nx (S1 := S) (en1 := [some (.int (s / 16 ^ (rangeD 0 32).length)), some (.str (text s)), l]) ?_).trans ?_
  · refine evS_for (S1 := S) (ds := [.int 32]) (by simp only [evSs, evS.eq_1, evS.eq_2, evS.eq_3, evS.eq_4, evS.eq_5, evS.eq_6, evS.eq_7, evS.eq_8, evS.eq_9, evS.eq_10, evS.eq_11, evE.eq_1, evE.eq_2, evE.eq_3, evE.eq_4, evE.eq_5, evE.eq_6, evE.eq_7, evE.eq_8, evE.eq_9, evE.eq_10, evE.eq_11, evE.eq_12, evE.eq_13, evE.eq_14, evE.eq_15, evE.eq_16, evE.eq_17, evE.eq_18, evE.eq_19, evEs, evO, evC, Re.bind, lift, builtin, binop, cmpop, view, isScalar, Tg.put, Tg.puts, List.set_cons_zero, List.set_cons_succ, List.getElem?_cons_zero, List.getElem?_cons_succ, List.map_cons, List.map_nil, List.cons_append, List.nil_append, List.replicate_succ, List.replicate_zero, Option.map_some, Option.map_none, Option.bind_some, if_true, if_false, Bool.not_true, Bool.not_false, Nat.sub_self, List.length_cons, List.length_nil, Bool.false_eq_true, reduceCtorEq, decide_true, decide_false, Int.reduceLT, Int.reduceLE, Int.reduceEq, Nat.reduceLeDiff, Nat.reduceAdd, eqOk_ii, eqv_ii, eqOk_ss, eqv_ss, ltOk_ii, lt_ii, l1, l2, l3, l4, Nat.zero_add, eq_self,  Bool.and_self, Bool.and_true, Bool.true_and, List.append_nil]) (walk_rng (by omega) (by omega)) rfl (e.trans ?_)
    rw [rng_len, List.append_nil]
    rfl
  · simp only [evSs, evS.eq_1, evS.eq_2, evS.eq_3, evS.eq_4, evS.eq_5, evS.eq_6, evS.eq_7, evS.eq_8, evS.eq_9, evS.eq_10, evS.eq_11, evE.eq_1, evE.eq_2, evE.eq_3, evE.eq_4, evE.eq_5, evE.eq_6, evE.eq_7, evE.eq_8, evE.eq_9, evE.eq_10, evE.eq_11, evE.eq_12, evE.eq_13, evE.eq_14, evE.eq_15, evE.eq_16, evE.eq_17, evE.eq_18, evE.eq_19, evEs, evO, evC, Re.bind, lift, builtin, binop, cmpop, view, isScalar, Tg.put, Tg.puts, List.set_cons_zero, List.set_cons_succ, List.getElem?_cons_zero, List.getElem?_cons_succ, List.map_cons, List.map_nil, List.cons_append, List.nil_append, List.replicate_succ, List.replicate_zero, Option.map_some, Option.map_none, Option.bind_some, if_true, if_false, Bool.not_true, Bool.not_false, Nat.sub_self, List.length_cons, List.length_nil, Bool.false_eq_true, reduceCtorEq, decide_true, decide_false, Int.reduceLT, Int.reduceLE, Int.reduceEq, Nat.reduceLeDiff, Nat.reduceAdd, eqOk_ii, eqv_ii, eqOk_ss, eqv_ss, ltOk_ii, lt_ii, l1, l2, l3, l4, Nat.zero_add, eq_self,  Bool.and_self, Bool.and_true, Bool.true_and, List.append_nil]
/-! ### and back -/
def vl (ds : List Nat) : Int := ds.foldl (fun (a : Int) (d : Nat) => 16 * a + d) 0
theorem ix_back {d : Nat} (h : d < 16) : meth .index (.str "0123456789abcdef") [.str (tx [d])] = some (.int d) := by
  have : ∀ n : Fin 16, meth .index (.str "0123456789abcdef") [.str (tx [n.val])] = some (.int (n.val : Int)) := by decide +kernel
  exact this ⟨d, h⟩
theorem items_tx (ds : List Nat) (h : ds.length ≤ 60) : items (.str (tx ds)) = some (ds.map fun d => .str (tx [d])) := by
  have h2 : (tx ds).length ≤ line := by rw [tx_len]; unfold line; omega
  simp only [items, h2, if_true]
  simp [tx]
theorem r_state_of {k : Nat} (hk : 1 ≤ k) (ds : List Nat) (hd : ∀ d ∈ ds, d < 16) (hl : ds.length ≤ 60) (S : Sto) : callP prog k "state_of" [.str (tx ds)] S = .ok (.int (vl ds)) S := by
  obtain ⟨k, rfl, _⟩ := kk hk
  obtain ⟨l, e, _⟩ := forLoop_fold (S := S) (f := bodyF (callP prog k) (.nm 2) [.asg (.nm 1) (.bin .add (.bin .mul (.cst (.int 16)) (.loc 1)) (.me .index (.cst (.str "0123456789abcdef")) [(.loc 2)]))])
    (fun d : Nat => D.str (tx [d])) (fun (b : Int) l => [some (.str (tx ds)), some (.int b), l.map fun d => D.str (tx [d])]) (fun (a : Int) (d : Nat) => 16 * a + d) (fun _ => True) ds 0 none trivial fun b l a _ ha => by
      refine ⟨?_, trivial⟩
      have hm : mulOk 16 b = true := by unfold mulOk; rw [show decide ((16 : Int).natAbs < 2 ^ 64) = true by decide]; simp
      simp only [bodyF, evSs, evS.eq_1, evS.eq_2, evS.eq_3, evS.eq_4, evS.eq_5, evS.eq_6, evS.eq_7, evS.eq_8, evS.eq_9, evS.eq_10, evS.eq_11, evE.eq_1, evE.eq_2, evE.eq_3, evE.eq_4, evE.eq_5, evE.eq_6, evE.eq_7, evE.eq_8, evE.eq_9, evE.eq_10, evE.eq_11, evE.eq_12, evE.eq_13, evE.eq_14, evE.eq_15, evE.eq_16, evE.eq_17, evE.eq_18, evE.eq_19, evEs, evO, evC, Re.bind, lift, builtin, binop, cmpop, view, isScalar, Tg.put, Tg.puts, List.set_cons_zero, List.set_cons_succ, List.getElem?_cons_zero, List.getElem?_cons_succ, List.map_cons, List.map_nil, List.cons_append, List.nil_append, List.replicate_succ, List.replicate_zero, Option.map_some, Option.map_none, Option.bind_some, if_true, if_false, Bool.not_true, Bool.not_false, Nat.sub_self, List.length_cons, List.length_nil, Bool.false_eq_true, reduceCtorEq, decide_true, decide_false, Int.reduceLT, Int.reduceLE, Int.reduceEq, Nat.reduceLeDiff, Nat.reduceAdd, eqOk_ii, eqv_ii, eqOk_ss, eqv_ss, ltOk_ii, lt_ii, l1, l2, l3, l4, Nat.zero_add, eq_self,  Bool.and_self, Bool.and_true, Bool.true_and, List.append_nil, hm, meOk, ix_back (hd a ha)]
  refine call_ret (fn := f_state_of) (en' := [some (.str (tx ds)), some (.int (vl ds)), l.map fun d => D.str (tx [d])]) rfl rfl ?_
  simp only [f_state_of]
  refine (evSs_nx (S1 := S) (en1 := [some (.str (tx ds)), some (.int 0), none]) ?_).trans ?_
  · simp only [evSs, evS.eq_1, evS.eq_2, evS.eq_3, evS.eq_4, evS.eq_5, evS.eq_6, evS.eq_7, evS.eq_8, evS.eq_9, evS.eq_10, evS.eq_11, evE.eq_1, evE.eq_2, evE.eq_3, evE.eq_4, evE.eq_5, evE.eq_6, evE.eq_7, evE.eq_8, evE.eq_9, evE.eq_10, evE.eq_11, evE.eq_12, evE.eq_13, evE.eq_14, evE.eq_15, evE.eq_16, evE.eq_17, evE.eq_18, evE.eq_19, evEs, evO, evC, Re.bind, lift, builtin, binop, cmpop, view, isScalar, Tg.put, Tg.puts, List.set_cons_zero, List.set_cons_succ, List.getElem?_cons_zero, List.getElem?_cons_succ, List.map_cons, List.map_nil, List.cons_append, List.nil_append, List.replicate_succ, List.replicate_zero, Option.map_some, Option.map_none, Option.bind_some, if_true, if_false, Bool.not_true, Bool.not_false, Nat.sub_self, List.length_cons, List.length_nil, Bool.false_eq_true, reduceCtorEq, decide_true, decide_false, Int.reduceLT, Int.reduceLE, Int.reduceEq, Nat.reduceLeDiff, Nat.reduceAdd, eqOk_ii, eqv_ii, eqOk_ss, eqv_ss, ltOk_ii, lt_ii, l1, l2, l3, l4, Nat.zero_add, eq_self,  Bool.and_self, Bool.and_true, Bool.true_and, List.append_nil]
  refine (evSs_nx (S1 := S) (en1 := [some (.str (tx ds)), some (.int (vl ds)), l.map fun d => D.str (tx [d])]) ?_).trans ?_
  · exact evS_for (S1 := S) (ds := [.str (tx ds)]) (by simp only [evSs, evS.eq_1, evS.eq_2, evS.eq_3, evS.eq_4, evS.eq_5, evS.eq_6, evS.eq_7, evS.eq_8, evS.eq_9, evS.eq_10, evS.eq_11, evE.eq_1, evE.eq_2, evE.eq_3, evE.eq_4, evE.eq_5, evE.eq_6, evE.eq_7, evE.eq_8, evE.eq_9, evE.eq_10, evE.eq_11, evE.eq_12, evE.eq_13, evE.eq_14, evE.eq_15, evE.eq_16, evE.eq_17, evE.eq_18, evE.eq_19, evEs, evO, evC, Re.bind, lift, builtin, binop, cmpop, view, isScalar, Tg.put, Tg.puts, List.set_cons_zero, List.set_cons_succ, List.getElem?_cons_zero, List.getElem?_cons_succ, List.map_cons, List.map_nil, List.cons_append, List.nil_append, List.replicate_succ, List.replicate_zero, Option.map_some, Option.map_none, Option.bind_some, if_true, if_false, Bool.not_true, Bool.not_false, Nat.sub_self, List.length_cons, List.length_nil, Bool.false_eq_true, reduceCtorEq, decide_true, decide_false, Int.reduceLT, Int.reduceLE, Int.reduceEq, Nat.reduceLeDiff, Nat.reduceAdd, eqOk_ii, eqv_ii, eqOk_ss, eqv_ss, ltOk_ii, lt_ii, l1, l2, l3, l4, Nat.zero_add, eq_self,  Bool.and_self, Bool.and_true, Bool.true_and, List.append_nil]) (items_tx ds hl) rfl e
  · simp only [evSs, evS.eq_1, evS.eq_2, evS.eq_3, evS.eq_4, evS.eq_5, evS.eq_6, evS.eq_7, evS.eq_8, evS.eq_9, evS.eq_10, evS.eq_11, evE.eq_1, evE.eq_2, evE.eq_3, evE.eq_4, evE.eq_5, evE.eq_6, evE.eq_7, evE.eq_8, evE.eq_9, evE.eq_10, evE.eq_11, evE.eq_12, evE.eq_13, evE.eq_14, evE.eq_15, evE.eq_16, evE.eq_17, evE.eq_18, evE.eq_19, evEs, evO, evC, Re.bind, lift, builtin, binop, cmpop, view, isScalar, Tg.put, Tg.puts, List.set_cons_zero, List.set_cons_succ, List.getElem?_cons_zero, List.getElem?_cons_succ, List.map_cons, List.map_nil, List.cons_append, List.nil_append, List.replicate_succ, List.replicate_zero, Option.map_some, Option.map_none, Option.bind_some, if_true, if_false, Bool.not_true, Bool.not_false, Nat.sub_self, List.length_cons, List.length_nil, Bool.false_eq_true, reduceCtorEq, decide_true, decide_false, Int.reduceLT, Int.reduceLE, Int.reduceEq, Nat.reduceLeDiff, Nat.reduceAdd, eqOk_ii, eqv_ii, eqOk_ss, eqv_ss, ltOk_ii, lt_ii, l1, l2, l3, l4, Nat.zero_add, eq_self,  Bool.and_self, Bool.and_true, Bool.true_and, List.append_nil]
theorem vl_app (ds : List Nat) (d : Nat) : vl (ds ++ [d]) = 16 * vl ds + d := by
  unfold vl
  rw [List.foldl_append]
  rfl
theorem vl_dg : ∀ (n : Nat) (s : Int), vl (dg n s) = s % 16 ^ n
  | 0, s => by simp [dg, vl]
  | n + 1, s => by
    rw [dg, vl_app, vl_dg n]
    have h := m16 s
    rw [Int.toNat_of_nonneg h.1]
    have hp : (0 : Int) < 16 ^ n := Int.pow_pos (by omega)
    rw [Int.pow_succ, Int.mul_comm (16 ^ n) 16]
    generalize (16 : Int) ^ n = q at *
    have e1 : s / 16 * 16 + s % 16 = s := Int.ediv_mul_add_emod s 16
    have e2 : s / 16 / q * q + s / 16 % q = s / 16 := Int.ediv_mul_add_emod (s / 16) q
    have e3 := Int.emod_nonneg (s / 16) (show q ≠ 0 by omega)
    have e4 := Int.emod_lt_of_pos (s / 16) hp
    have e5 : s = (16 * (s / 16 % q) + s % 16) + 16 * q * (s / 16 / q) := by
      have : 16 * (s / 16 / q * q + s / 16 % q) + s % 16 = s := by rw [e2]; omega
      rw [Int.mul_add] at this
      have e6 : 16 * (s / 16 / q * q) = 16 * q * (s / 16 / q) := by rw [Int.mul_comm (s / 16 / q) q, Int.mul_assoc]
      omega
    have e7 : s % (16 * q) = (16 * (s / 16 % q) + s % 16) % (16 * q) := by
      conv => lhs; rw [e5]
      rw [Int.add_mul_emod_self_left]
    rw [e7]
    exact (Int.emod_eq_of_lt (by omega) (by omega)).symm
/-! ### what is a digest -/
theorem text_val {s : Int} (h0 : 0 ≤ s) (h : s < PR) : vl (dg 32 s) = s := by
  rw [vl_dg]
  exact Int.emod_eq_of_lt h0 (by unfold PR at h; omega)
theorem r_state_text {k : Nat} (hk : 1 ≤ k) {s : Int} (h0 : 0 ≤ s) (h : s < PR) (S : Sto) : callP prog k "state_of" [.str (text s)] S = .ok (.int s) S := by
  have := r_state_of hk (dg 32 s) (fun d hd => dg_lt _ _ d hd) (by rw [dg_len]; omega) S
  rw [text_val h0 h] at this
  exact this
theorem text_inj {s t : Int} (h0 : 0 ≤ s) (h : s < PR) (g0 : 0 ≤ t) (g : t < PR) (e : text s = text t) : s = t := by
  have a := r_state_text (k := 1) (by omega) h0 h []
  rw [e, r_state_text (k := 1) (by omega) g0 g []] at a
  cases a
  rfl
theorem in_hex {d : Nat} (h : d < 16) : cmpop .in_ (.str (tx [d])) (.str "0123456789abcdef") = some true := by
  have : ∀ n : Fin 16, cmpop .in_ (.str (tx [n.val])) (.str "0123456789abcdef") = some true := by decide +kernel
  exact this ⟨d, h⟩
theorem allBl_map {α : Type} (f : α → Bool) : ∀ xs : List α, allBl (xs.map fun x => .bl (f x)) = some (xs.map f)
  | [] => rfl
  | x :: xs => by rw [List.map_cons, allBl, allBl_map f xs]; rfl
theorem r_fits_text {k : Nat} (hk : 2 ≤ k) {s : Int} (h0 : 0 ≤ s) (h : s < PR) (S : Sto) : callP prog k "fits_digest" [.str (text s)] S = .ok (.bl true) S := by
  obtain ⟨k, rfl, h1⟩ := kk hk
  have hs := r_state_text h1 h0 h S
  have hl : (text s).length = 32 := by unfold text; rw [tx_len, dg_len]
  have hl' : (text s).length ≤ line := by rw [hl]; unfold line; omega
  have hit : items (.str (text s)) = some ((dg 32 s).map fun d => .str (tx [d])) := items_tx _ (by rw [dg_len]; omega)
  have hc : ∀ en0, en0 = some (D.str (text s)) → evE (callP prog k) (.comp [1] (.nm 1) .ex [(.loc 0)] none (.cmp .in_ (.loc 1) (.cst (.str "0123456789abcdef")))) [en0, none] S = .ok (.lst ((dg 32 s).map fun _ => .bl true)) S := fun en0 e0 => by
    subst e0
    refine evE_comp (S1 := S) (ds := [.str (text s)]) (w := []) (by simp only [evSs, evS.eq_1, evS.eq_2, evS.eq_3, evS.eq_4, evS.eq_5, evS.eq_6, evS.eq_7, evS.eq_8, evS.eq_9, evS.eq_10, evS.eq_11, evE.eq_1, evE.eq_2, evE.eq_3, evE.eq_4, evE.eq_5, evE.eq_6, evE.eq_7, evE.eq_8, evE.eq_9, evE.eq_10, evE.eq_11, evE.eq_12, evE.eq_13, evE.eq_14, evE.eq_15, evE.eq_16, evE.eq_17, evE.eq_18, evE.eq_19, evEs, evO, evC, Re.bind, lift, builtin, binop, cmpop, view, isScalar, Tg.put, Tg.puts, List.set_cons_zero, List.set_cons_succ, List.getElem?_cons_zero, List.getElem?_cons_succ, List.map_cons, List.map_nil, List.cons_append, List.nil_append, List.replicate_succ, List.replicate_zero, Option.map_some, Option.map_none, Option.bind_some, if_true, if_false, Bool.not_true, Bool.not_false, Nat.sub_self, List.length_cons, List.length_nil, Bool.false_eq_true, reduceCtorEq, decide_true, decide_false, Int.reduceLT, Int.reduceLE, Int.reduceEq, Nat.reduceLeDiff, Nat.reduceAdd, eqOk_ii, eqv_ii, eqOk_ss, eqv_ss, ltOk_ii, lt_ii, l1, l2, l3, l4, Nat.zero_add, eq_self,  Bool.and_self, Bool.and_true, Bool.true_and, List.append_nil]) hit rfl (by rw [List.length_map, dg_len]; unfold line; omega) ?_
    have := compLoop_map (f := bodyC (callP prog k) [1] (.nm 1) none (.cmp .in_ (.loc 1) (.cst (.str "0123456789abcdef"))) [some (D.str (text s)), none]) (S := S) (w := []) rfl (fun _ => D.bl true) ((dg 32 s).map fun d => .str (tx [d])) [] fun x hx => by
      obtain ⟨d, hd, rfl⟩ := List.mem_map.mp hx
      have hh := in_hex (dg_lt _ _ d hd)
      simp only [bodyC, wipeE, evSs, evS, evE, evEs, evO, evC, Re.bind, lift, view, Tg.put, List.set_cons_zero, List.set_cons_succ, List.getElem?_cons_zero, List.getElem?_cons_succ, hh, Option.map_some, if_true]
    rw [List.nil_append, List.map_map] at this
    exact this
  have ha : allBl ((dg 32 s).map fun _ => .bl true) = some ((dg 32 s).map fun _ => true) := allBl_map (fun _ => true) _
  have hb : (((dg 32 s).map fun _ => true).all id) = true := by simp
  have hm : mulOk 2 16 = true := by decide +kernel
  have he : eqOk (.int 32) (.int 32) = true := by decide +kernel
  have hlt : (D.ltOk (.int s) (.int 170141183460469231731687303715884105727) && eqOk (.int s) (.int 170141183460469231731687303715884105727)) = true := by rfl
  have hlt2 : D.lt (.int s) (.int 170141183460469231731687303715884105727) = true := by rw [D.lt]; exact decide_eq_true h
  have hne : D.eqv (.int 32) (.int 32) = true := by decide +kernel
  refine call_ret (fn := f_fits_digest) (en' := [some (.str (text s)), none]) rfl rfl ?_
  simp only [f_fits_digest]
  refine (evSs_nx (S1 := S) (en1 := [some (.str (text s)), none]) ?_).trans ?_
  · simp only [evSs, evS.eq_1, evS.eq_2, evS.eq_3, evS.eq_4, evS.eq_5, evS.eq_6, evS.eq_7, evS.eq_8, evS.eq_9, evS.eq_10, evS.eq_11, evE.eq_1, evE.eq_2, evE.eq_3, evE.eq_4, evE.eq_5, evE.eq_6, evE.eq_7, evE.eq_8, evE.eq_9, evE.eq_10, evE.eq_11, evE.eq_12, evE.eq_13, evE.eq_14, evE.eq_15, evE.eq_16, evE.eq_17, evE.eq_18, evE.eq_19, evEs, evO, evC, Re.bind, lift, builtin, binop, cmpop, view, isScalar, Tg.put, Tg.puts, List.set_cons_zero, List.set_cons_succ, List.getElem?_cons_zero, List.getElem?_cons_succ, List.map_cons, List.map_nil, List.cons_append, List.nil_append, List.replicate_succ, List.replicate_zero, Option.map_some, Option.map_none, Option.bind_some, if_true, if_false, Bool.not_true, Bool.not_false, Nat.sub_self, List.length_cons, List.length_nil, Bool.false_eq_true, reduceCtorEq, decide_true, decide_false, Int.reduceLT, Int.reduceLE, Int.reduceEq, Nat.reduceLeDiff, Nat.reduceAdd, eqOk_ii, eqv_ii, eqOk_ss, eqv_ss, ltOk_ii, lt_ii, l1, l2, l3, l4, Nat.zero_add, eq_self,  Bool.and_self, Bool.and_true, Bool.true_and, List.append_nil, show (32 : Nat) ≤ line by decide, hl, hc _ rfl, ha, hb, hm, he, hne, show ((2 : Int) * 16) = 32 by rfl, show ((32 : Nat) : Int) = 32 by rfl]
  · simp only [evSs, evS.eq_1, evS.eq_2, evS.eq_3, evS.eq_4, evS.eq_5, evS.eq_6, evS.eq_7, evS.eq_8, evS.eq_9, evS.eq_10, evS.eq_11, evE.eq_1, evE.eq_2, evE.eq_3, evE.eq_4, evE.eq_5, evE.eq_6, evE.eq_7, evE.eq_8, evE.eq_9, evE.eq_10, evE.eq_11, evE.eq_12, evE.eq_13, evE.eq_14, evE.eq_15, evE.eq_16, evE.eq_17, evE.eq_18, evE.eq_19, evEs, evO, evC, Re.bind, lift, builtin, binop, cmpop, view, isScalar, Tg.put, Tg.puts, List.set_cons_zero, List.set_cons_succ, List.getElem?_cons_zero, List.getElem?_cons_succ, List.map_cons, List.map_nil, List.cons_append, List.nil_append, List.replicate_succ, List.replicate_zero, Option.map_some, Option.map_none, Option.bind_some, if_true, if_false, Bool.not_true, Bool.not_false, Nat.sub_self, List.length_cons, List.length_nil, Bool.false_eq_true, reduceCtorEq, decide_true, decide_false, Int.reduceLT, Int.reduceLE, Int.reduceEq, Nat.reduceLeDiff, Nat.reduceAdd, eqOk_ii, eqv_ii, eqOk_ss, eqv_ss, ltOk_ii, lt_ii, l1, l2, l3, l4, Nat.zero_add, eq_self,  Bool.and_self, Bool.and_true, Bool.true_and, List.append_nil, hs, hlt, hlt2]
/-! ### arithmetic by the prime -/
def M (a b : Int) : Prop := a % PR = b % PR
theorem M.refl (a : Int) : M a a := rfl
theorem M.symm {a b : Int} (h : M a b) : M b a := Eq.symm h
theorem M.trans {a b c : Int} (h : M a b) (g : M b c) : M a c := Eq.trans h g
theorem M.mul {a b c d : Int} (h : M a b) (g : M c d) : M (a * c) (b * d) := by
  unfold M at *
  rw [Int.mul_emod, h, g, ← Int.mul_emod]
theorem M.add {a b c d : Int} (h : M a b) (g : M c d) : M (a + c) (b + d) := by
  unfold M at *
  rw [Int.add_emod, h, g, ← Int.add_emod]
theorem M.sub {a b c d : Int} (h : M a b) (g : M c d) : M (a - c) (b - d) := by
  unfold M at *
  rw [Int.sub_emod, h, g, ← Int.sub_emod]
theorem M.mod (a : Int) : M (a % PR) a := by
  unfold M
  rw [Int.emod_emod]
theorem M.pow {a b : Int} (h : M a b) : ∀ n : Nat, M (a ^ n) (b ^ n)
  | 0 => by rw [Int.pow_zero, Int.pow_zero]; exact M.refl _
  | n + 1 => by rw [Int.pow_succ, Int.pow_succ]; exact (M.pow h n).mul h
theorem mod_lt (a : Int) : 0 ≤ a % PR ∧ a % PR < PR := by unfold PR; omega
theorem M.eq {a b : Int} (h : M a b) (ha : 0 ≤ a) (ha' : a < PR) (hb : 0 ≤ b) (hb' : b < PR) : a = b := by
  unfold M at h
  rw [Int.emod_eq_of_lt ha ha', Int.emod_eq_of_lt hb hb'] at h
  exact h
theorem log_pr {a : Int} (h0 : 0 ≤ a) (h : a < PR) : a.natAbs.log2 ≤ 127 := by
  by_cases hz : a.natAbs = 0
  · rw [hz]; decide
  · have := (Nat.log2_lt hz (k := 128)).mpr (by unfold PR at h; omega)
    omega
theorem mul_pr {a b : Int} (h0 : 0 ≤ a) (h : a < PR) (g0 : 0 ≤ b) (g : b < PR) : mulOk a b = true := by
  have h1 := log_pr h0 h
  have h2 := log_pr g0 g
  have h3 : a.natAbs.log2 + b.natAbs.log2 < 1000000 := by omega
  unfold mulOk
  simp [h3]
def pw (m : Int) : Int := STEPc ^ m.toNat % PR
def mu (m : Int) : Nat := if m.toNat = 0 then 0 else m.toNat.log2 + 1
theorem mu_half {m : Int} (h : 0 < m) : mu (m / 2) < mu m := by
  unfold mu
  have e : (m / 2).toNat = m.toNat / 2 := by omega
  rw [e, if_neg (show ¬ m.toNat = 0 by omega)]
  split
  · omega
  · rename_i hz
    have h2 : 2 ≤ m.toNat := by omega
    have h3 : m.toNat.log2 = (m.toNat / 2).log2 + 1 := by
      conv => lhs; rw [Nat.log2_def]
      rw [if_pos h2]
    omega
theorem mu_small {m : Int} (h0 : 0 ≤ m) (h : m ≤ 1000000000000000000) : mu m < fuel := by
  unfold mu fuel
  split
  · omega
  · rename_i hz
    have := (Nat.log2_lt hz (k := 64)).mpr (by omega)
    omega
/-- the loop's word -/
def Pw (m0 m f o : Int) : Prop := 0 ≤ m ∧ 0 ≤ f ∧ f < PR ∧ 0 ≤ o ∧ o < PR ∧ M (f * o ^ m.toNat) (STEPc ^ m0.toNat)
theorem Pw.one (m : Int) (h : 0 ≤ m) : Pw m m 1 STEPc := ⟨h, by decide, by decide, by decide, by decide, by rw [Int.one_mul]; exact M.refl _⟩
theorem Pw.half {m0 m f o : Int} (h : Pw m0 m f o) (hm : 0 < m) : Pw m0 (m / 2) (if m % 2 = 1 then f * o % PR else f) (o * o % PR) := by
  obtain ⟨h0, h1, h2, h3, h4, h5⟩ := h
  have ho := mod_lt (o * o)
  have hf := mod_lt (f * o)
  have hp : M ((o * o % PR) ^ (m / 2).toNat) ((o * o) ^ (m / 2).toNat) := (M.mod (o * o)).pow _
  have hq : (o * o) ^ (m / 2).toNat = o ^ (2 * (m / 2).toNat) := by rw [Int.pow_mul]; congr 1; rw [Int.pow_succ, Int.pow_succ, Int.pow_zero, Int.one_mul]
  rw [hq] at hp
  split
  · rename_i e
    refine ⟨by omega, hf.1, hf.2, ho.1, ho.2, ?_⟩
    refine M.trans ((M.mod (f * o)).mul hp) ?_
    have e2 : m.toNat = 2 * (m / 2).toNat + 1 := by omega
    rw [e2, Int.pow_succ] at h5
    rw [Int.mul_assoc, Int.mul_comm o]
    exact h5
  · rename_i e
    refine ⟨by omega, h1, h2, ho.1, ho.2, ?_⟩
    refine M.trans ((M.refl f).mul hp) ?_
    have e2 : m.toNat = 2 * (m / 2).toNat := by omega
    rw [e2] at h5
    exact h5
theorem Pw.done {m0 m f o : Int} (h : Pw m0 m f o) (hm : ¬ 0 < m) : f = pw m0 := by
  obtain ⟨h0, h1, h2, h3, h4, h5⟩ := h
  have e : m = 0 := by omega
  subst e
  have h6 := mod_lt (STEPc ^ m0.toNat)
  refine M.eq (M.trans ?_ (M.mod _).symm) h1 h2 h6.1 h6.2
  have e1 : f * o ^ (0 : Int).toNat = f := by rw [show (0 : Int).toNat = 0 by rfl, Int.pow_zero, Int.mul_one]
  rw [e1] at h5
  exact h5
theorem eq2 (x : Int) : cmpop .eq (.int x) (.int 1) = some (decide (x = 1)) := by
  have e : eqOk (.int x) (.int 1) = true := by rfl
  have e2 : D.eqv (.int x) (.int 1) = decide (x = 1) := by rw [D.eqv]; rfl
  simp only [cmpop, e, if_true, e2]
theorem dv2 : divOk 2 = true := by decide +kernel
theorem r_power_of {k : Nat} (hk : 1 ≤ k) {m : Int} (h0 : 0 ≤ m) (h : m ≤ 1000000000000000000) (S : Sto) : callP prog k "power_of" [.int m] S = .ok (.int (pw m)) S := by
  obtain ⟨k, rfl, _⟩ := kk hk
  obtain ⟨en', S', e, l, o, rfl, rfl⟩ := while_inv (c := fun en S => evE (callP prog k) (.cmp .gt (.loc 0) (.cst (.int 0))) en S) (f := fun en S => evSs (callP prog k) [.asg (.tup [(.nm 1), (.nm 2), (.nm 0)]) (.tup [(.ite (.cmp .eq (.bin .mod (.loc 0) (.cst (.int 2))) (.cst (.int 1))) (.bin .mod (.bin .mul (.loc 1) (.loc 2)) (.cst (.int 170141183460469231731687303715884105727))) (.loc 1)), (.bin .mod (.bin .mul (.loc 2) (.loc 2)) (.cst (.int 170141183460469231731687303715884105727))), (.bin .fdiv (.loc 0) (.cst (.int 2)))])] en S)
    (fun en S' => ∃ q f o, en = [some (.int q), some (.int f), some (.int o)] ∧ Pw m q f o ∧ S' = S) (fun en => match en with | some (.int q) :: _ => mu q | _ => 0) (fun en S' => ∃ l o, en = [some (.int l), some (.int (pw m)), some (.int o)] ∧ S' = S) (fun en S' hq => by
      obtain ⟨q, f, o, rfl, w, rfl⟩ := hq
      by_cases hp : 0 < q
      · refine .inr ⟨by simp only [evSs, evS.eq_1, evS.eq_2, evS.eq_3, evS.eq_4, evS.eq_5, evS.eq_6, evS.eq_7, evS.eq_8, evS.eq_9, evS.eq_10, evS.eq_11, evE.eq_1, evE.eq_2, evE.eq_3, evE.eq_4, evE.eq_5, evE.eq_6, evE.eq_7, evE.eq_8, evE.eq_9, evE.eq_10, evE.eq_11, evE.eq_12, evE.eq_13, evE.eq_14, evE.eq_15, evE.eq_16, evE.eq_17, evE.eq_18, evE.eq_19, evEs, evO, evC, Re.bind, lift, builtin, binop, cmpop, view, isScalar, Tg.put, Tg.puts, List.set_cons_zero, List.set_cons_succ, List.getElem?_cons_zero, List.getElem?_cons_succ, List.map_cons, List.map_nil, List.cons_append, List.nil_append, List.replicate_succ, List.replicate_zero, Option.map_some, Option.map_none, Option.bind_some, if_true, if_false, Bool.not_true, Bool.not_false, Nat.sub_self, List.length_cons, List.length_nil, Bool.false_eq_true, reduceCtorEq, decide_true, decide_false, Int.reduceLT, Int.reduceLE, Int.reduceEq, Nat.reduceLeDiff, Nat.reduceAdd, eqOk_ii, eqv_ii, eqOk_ss, eqv_ss, ltOk_ii, lt_ii, l1, l2, l3, l4, Nat.zero_add, eq_self,  Bool.and_self, Bool.and_true, Bool.true_and, List.append_nil, hp], _, _, ?_, ⟨_, _, _, rfl, w.half hp, rfl⟩, mu_half hp⟩
        obtain ⟨w0, w1, w2, w3, w4, w5⟩ := w
        by_cases he : q % 2 = 1
        · simp only [evSs, evS.eq_1, evS.eq_2, evS.eq_3, evS.eq_4, evS.eq_5, evS.eq_6, evS.eq_7, evS.eq_8, evS.eq_9, evS.eq_10, evS.eq_11, evE.eq_1, evE.eq_2, evE.eq_3, evE.eq_4, evE.eq_5, evE.eq_6, evE.eq_7, evE.eq_8, evE.eq_9, evE.eq_10, evE.eq_11, evE.eq_12, evE.eq_13, evE.eq_14, evE.eq_15, evE.eq_16, evE.eq_17, evE.eq_18, evE.eq_19, evEs, evO, evC, Re.bind, lift, builtin, binop, cmpop, view, isScalar, Tg.put, Tg.puts, List.set_cons_zero, List.set_cons_succ, List.getElem?_cons_zero, List.getElem?_cons_succ, List.map_cons, List.map_nil, List.cons_append, List.nil_append, List.replicate_succ, List.replicate_zero, Option.map_some, Option.map_none, Option.bind_some, if_true, if_false, Bool.not_true, Bool.not_false, Nat.sub_self, List.length_cons, List.length_nil, Bool.false_eq_true, reduceCtorEq, decide_true, decide_false, Int.reduceLT, Int.reduceLE, Int.reduceEq, Nat.reduceLeDiff, Nat.reduceAdd, eqOk_ii, eqv_ii, eqOk_ss, eqv_ss, ltOk_ii, lt_ii, l1, l2, l3, l4, Nat.zero_add, eq_self,  Bool.and_self, Bool.and_true, Bool.true_and, List.append_nil, he, mul_pr w1 w2 w3 w4, mul_pr w3 w4 w3 w4, dv2, PR]
        · simp only [evSs, evS.eq_1, evS.eq_2, evS.eq_3, evS.eq_4, evS.eq_5, evS.eq_6, evS.eq_7, evS.eq_8, evS.eq_9, evS.eq_10, evS.eq_11, evE.eq_1, evE.eq_2, evE.eq_3, evE.eq_4, evE.eq_5, evE.eq_6, evE.eq_7, evE.eq_8, evE.eq_9, evE.eq_10, evE.eq_11, evE.eq_12, evE.eq_13, evE.eq_14, evE.eq_15, evE.eq_16, evE.eq_17, evE.eq_18, evE.eq_19, evEs, evO, evC, Re.bind, lift, builtin, binop, cmpop, view, isScalar, Tg.put, Tg.puts, List.set_cons_zero, List.set_cons_succ, List.getElem?_cons_zero, List.getElem?_cons_succ, List.map_cons, List.map_nil, List.cons_append, List.nil_append, List.replicate_succ, List.replicate_zero, Option.map_some, Option.map_none, Option.bind_some, if_true, if_false, Bool.not_true, Bool.not_false, Nat.sub_self, List.length_cons, List.length_nil, Bool.false_eq_true, reduceCtorEq, decide_true, decide_false, Int.reduceLT, Int.reduceLE, Int.reduceEq, Nat.reduceLeDiff, Nat.reduceAdd, eqOk_ii, eqv_ii, eqOk_ss, eqv_ss, ltOk_ii, lt_ii, l1, l2, l3, l4, Nat.zero_add, eq_self,  Bool.and_self, Bool.and_true, Bool.true_and, List.append_nil, he, mul_pr w3 w4 w3 w4, dv2, PR]
      · refine .inl ⟨by simp only [evSs, evS.eq_1, evS.eq_2, evS.eq_3, evS.eq_4, evS.eq_5, evS.eq_6, evS.eq_7, evS.eq_8, evS.eq_9, evS.eq_10, evS.eq_11, evE.eq_1, evE.eq_2, evE.eq_3, evE.eq_4, evE.eq_5, evE.eq_6, evE.eq_7, evE.eq_8, evE.eq_9, evE.eq_10, evE.eq_11, evE.eq_12, evE.eq_13, evE.eq_14, evE.eq_15, evE.eq_16, evE.eq_17, evE.eq_18, evE.eq_19, evEs, evO, evC, Re.bind, lift, builtin, binop, cmpop, view, isScalar, Tg.put, Tg.puts, List.set_cons_zero, List.set_cons_succ, List.getElem?_cons_zero, List.getElem?_cons_succ, List.map_cons, List.map_nil, List.cons_append, List.nil_append, List.replicate_succ, List.replicate_zero, Option.map_some, Option.map_none, Option.bind_some, if_true, if_false, Bool.not_true, Bool.not_false, Nat.sub_self, List.length_cons, List.length_nil, Bool.false_eq_true, reduceCtorEq, decide_true, decide_false, Int.reduceLT, Int.reduceLE, Int.reduceEq, Nat.reduceLeDiff, Nat.reduceAdd, eqOk_ii, eqv_ii, eqOk_ss, eqv_ss, ltOk_ii, lt_ii, l1, l2, l3, l4, Nat.zero_add, eq_self,  Bool.and_self, Bool.and_true, Bool.true_and, List.append_nil, hp], q, o, ?_, rfl⟩
        rw [w.done hp]) fuel [some (.int m), some (.int 1), some (.int STEPc)] S (mu_small h0 h) ⟨m, 1, STEPc, rfl, Pw.one m h0, rfl⟩
  refine call_ret (fn := f_power_of) (en' := [some (.int l), some (.int (pw m)), some (.int o)]) rfl rfl ?_
  simp only [f_power_of]
  refine (evSs_nx (S1 := S') (en1 := [some (.int m), some (.int 1), some (.int STEPc)]) ?_).trans ?_
  · simp only [evSs, evS.eq_1, evS.eq_2, evS.eq_3, evS.eq_4, evS.eq_5, evS.eq_6, evS.eq_7, evS.eq_8, evS.eq_9, evS.eq_10, evS.eq_11, evE.eq_1, evE.eq_2, evE.eq_3, evE.eq_4, evE.eq_5, evE.eq_6, evE.eq_7, evE.eq_8, evE.eq_9, evE.eq_10, evE.eq_11, evE.eq_12, evE.eq_13, evE.eq_14, evE.eq_15, evE.eq_16, evE.eq_17, evE.eq_18, evE.eq_19, evEs, evO, evC, Re.bind, lift, builtin, binop, cmpop, view, isScalar, Tg.put, Tg.puts, List.set_cons_zero, List.set_cons_succ, List.getElem?_cons_zero, List.getElem?_cons_succ, List.map_cons, List.map_nil, List.cons_append, List.nil_append, List.replicate_succ, List.replicate_zero, Option.map_some, Option.map_none, Option.bind_some, if_true, if_false, Bool.not_true, Bool.not_false, Nat.sub_self, List.length_cons, List.length_nil, Bool.false_eq_true, reduceCtorEq, decide_true, decide_false, Int.reduceLT, Int.reduceLE, Int.reduceEq, Nat.reduceLeDiff, Nat.reduceAdd, eqOk_ii, eqv_ii, eqOk_ss, eqv_ss, ltOk_ii, lt_ii, l1, l2, l3, l4, Nat.zero_add, eq_self,  Bool.and_self, Bool.and_true, Bool.true_and, List.append_nil]
  refine (evSs_nx (S1 := S') (en1 := [some (.int l), some (.int (pw m)), some (.int o)]) ?_).trans ?_
  · rw [evS]
    exact e
  · simp only [evSs, evS.eq_1, evS.eq_2, evS.eq_3, evS.eq_4, evS.eq_5, evS.eq_6, evS.eq_7, evS.eq_8, evS.eq_9, evS.eq_10, evS.eq_11, evE.eq_1, evE.eq_2, evE.eq_3, evE.eq_4, evE.eq_5, evE.eq_6, evE.eq_7, evE.eq_8, evE.eq_9, evE.eq_10, evE.eq_11, evE.eq_12, evE.eq_13, evE.eq_14, evE.eq_15, evE.eq_16, evE.eq_17, evE.eq_18, evE.eq_19, evEs, evO, evC, Re.bind, lift, builtin, binop, cmpop, view, isScalar, Tg.put, Tg.puts, List.set_cons_zero, List.set_cons_succ, List.getElem?_cons_zero, List.getElem?_cons_succ, List.map_cons, List.map_nil, List.cons_append, List.nil_append, List.replicate_succ, List.replicate_zero, Option.map_some, Option.map_none, Option.bind_some, if_true, if_false, Bool.not_true, Bool.not_false, Nat.sub_self, List.length_cons, List.length_nil, Bool.false_eq_true, reduceCtorEq, decide_true, decide_false, Int.reduceLT, Int.reduceLE, Int.reduceEq, Nat.reduceLeDiff, Nat.reduceAdd, eqOk_ii, eqv_ii, eqOk_ss, eqv_ss, ltOk_ii, lt_ii, l1, l2, l3, l4, Nat.zero_add, eq_self,  Bool.and_self, Bool.and_true, Bool.true_and, List.append_nil]
theorem r_law_power {k : Nat} (hk : 1 ≤ k) {m : Int} (h0 : 0 ≤ m) (h : m ≤ 1000000000000000000) (S : Sto) : callP prog k "_law_power" [.int m] S = .ok (.int (pw m)) S := by
  obtain ⟨k, rfl, _⟩ := kk hk
  obtain ⟨en', S', e, l, o, rfl, rfl⟩ := while_inv (c := fun en S => evE (callP prog k) (.cmp .gt (.loc 0) (.cst (.int 0))) en S) (f := fun en S => evSs (callP prog k) [.asg (.tup [(.nm 1), (.nm 2), (.nm 0)]) (.tup [(.ite (.cmp .eq (.bin .mod (.bi .int [(.loc 0)]) (.cst (.int 2))) (.cst (.int 1))) (.bin .mod (.bi .int [(.bin .mul (.loc 1) (.loc 2))]) (.loc 3)) (.loc 1)), (.bin .mod (.bi .int [(.bin .mul (.loc 2) (.loc 2))]) (.loc 3)), (.bin .fdiv (.loc 0) (.cst (.int 2)))])] en S)
    (fun en S' => ∃ q f o, en = [some (.int q), some (.int f), some (.int o), some (.int PR)] ∧ Pw m q f o ∧ S' = S) (fun en => match en with | some (.int q) :: _ => mu q | _ => 0) (fun en S' => ∃ l o, en = [some (.int l), some (.int (pw m)), some (.int o), some (.int PR)] ∧ S' = S) (fun en S' hq => by
      obtain ⟨q, f, o, rfl, w, rfl⟩ := hq
      by_cases hp : 0 < q
      · refine .inr ⟨by simp only [evSs, evS.eq_1, evS.eq_2, evS.eq_3, evS.eq_4, evS.eq_5, evS.eq_6, evS.eq_7, evS.eq_8, evS.eq_9, evS.eq_10, evS.eq_11, evE.eq_1, evE.eq_2, evE.eq_3, evE.eq_4, evE.eq_5, evE.eq_6, evE.eq_7, evE.eq_8, evE.eq_9, evE.eq_10, evE.eq_11, evE.eq_12, evE.eq_13, evE.eq_14, evE.eq_15, evE.eq_16, evE.eq_17, evE.eq_18, evE.eq_19, evEs, evO, evC, Re.bind, lift, builtin, binop, cmpop, view, isScalar, Tg.put, Tg.puts, List.set_cons_zero, List.set_cons_succ, List.getElem?_cons_zero, List.getElem?_cons_succ, List.map_cons, List.map_nil, List.cons_append, List.nil_append, List.replicate_succ, List.replicate_zero, Option.map_some, Option.map_none, Option.bind_some, if_true, if_false, Bool.not_true, Bool.not_false, Nat.sub_self, List.length_cons, List.length_nil, Bool.false_eq_true, reduceCtorEq, decide_true, decide_false, Int.reduceLT, Int.reduceLE, Int.reduceEq, Nat.reduceLeDiff, Nat.reduceAdd, eqOk_ii, eqv_ii, eqOk_ss, eqv_ss, ltOk_ii, lt_ii, l1, l2, l3, l4, Nat.zero_add, eq_self,  Bool.and_self, Bool.and_true, Bool.true_and, List.append_nil, hp], _, _, ?_, ⟨_, _, _, rfl, w.half hp, rfl⟩, mu_half hp⟩
        obtain ⟨w0, w1, w2, w3, w4, w5⟩ := w
        by_cases he : q % 2 = 1
        · simp only [evSs, evS.eq_1, evS.eq_2, evS.eq_3, evS.eq_4, evS.eq_5, evS.eq_6, evS.eq_7, evS.eq_8, evS.eq_9, evS.eq_10, evS.eq_11, evE.eq_1, evE.eq_2, evE.eq_3, evE.eq_4, evE.eq_5, evE.eq_6, evE.eq_7, evE.eq_8, evE.eq_9, evE.eq_10, evE.eq_11, evE.eq_12, evE.eq_13, evE.eq_14, evE.eq_15, evE.eq_16, evE.eq_17, evE.eq_18, evE.eq_19, evEs, evO, evC, Re.bind, lift, builtin, binop, cmpop, view, isScalar, Tg.put, Tg.puts, List.set_cons_zero, List.set_cons_succ, List.getElem?_cons_zero, List.getElem?_cons_succ, List.map_cons, List.map_nil, List.cons_append, List.nil_append, List.replicate_succ, List.replicate_zero, Option.map_some, Option.map_none, Option.bind_some, if_true, if_false, Bool.not_true, Bool.not_false, Nat.sub_self, List.length_cons, List.length_nil, Bool.false_eq_true, reduceCtorEq, decide_true, decide_false, Int.reduceLT, Int.reduceLE, Int.reduceEq, Nat.reduceLeDiff, Nat.reduceAdd, eqOk_ii, eqv_ii, eqOk_ss, eqv_ss, ltOk_ii, lt_ii, l1, l2, l3, l4, Nat.zero_add, eq_self,  Bool.and_self, Bool.and_true, Bool.true_and, List.append_nil, he, mul_pr w1 w2 w3 w4, mul_pr w3 w4 w3 w4, dv2, PR]
        · simp only [evSs, evS.eq_1, evS.eq_2, evS.eq_3, evS.eq_4, evS.eq_5, evS.eq_6, evS.eq_7, evS.eq_8, evS.eq_9, evS.eq_10, evS.eq_11, evE.eq_1, evE.eq_2, evE.eq_3, evE.eq_4, evE.eq_5, evE.eq_6, evE.eq_7, evE.eq_8, evE.eq_9, evE.eq_10, evE.eq_11, evE.eq_12, evE.eq_13, evE.eq_14, evE.eq_15, evE.eq_16, evE.eq_17, evE.eq_18, evE.eq_19, evEs, evO, evC, Re.bind, lift, builtin, binop, cmpop, view, isScalar, Tg.put, Tg.puts, List.set_cons_zero, List.set_cons_succ, List.getElem?_cons_zero, List.getElem?_cons_succ, List.map_cons, List.map_nil, List.cons_append, List.nil_append, List.replicate_succ, List.replicate_zero, Option.map_some, Option.map_none, Option.bind_some, if_true, if_false, Bool.not_true, Bool.not_false, Nat.sub_self, List.length_cons, List.length_nil, Bool.false_eq_true, reduceCtorEq, decide_true, decide_false, Int.reduceLT, Int.reduceLE, Int.reduceEq, Nat.reduceLeDiff, Nat.reduceAdd, eqOk_ii, eqv_ii, eqOk_ss, eqv_ss, ltOk_ii, lt_ii, l1, l2, l3, l4, Nat.zero_add, eq_self,  Bool.and_self, Bool.and_true, Bool.true_and, List.append_nil, he, mul_pr w3 w4 w3 w4, dv2, PR]
      · refine .inl ⟨by simp only [evSs, evS.eq_1, evS.eq_2, evS.eq_3, evS.eq_4, evS.eq_5, evS.eq_6, evS.eq_7, evS.eq_8, evS.eq_9, evS.eq_10, evS.eq_11, evE.eq_1, evE.eq_2, evE.eq_3, evE.eq_4, evE.eq_5, evE.eq_6, evE.eq_7, evE.eq_8, evE.eq_9, evE.eq_10, evE.eq_11, evE.eq_12, evE.eq_13, evE.eq_14, evE.eq_15, evE.eq_16, evE.eq_17, evE.eq_18, evE.eq_19, evEs, evO, evC, Re.bind, lift, builtin, binop, cmpop, view, isScalar, Tg.put, Tg.puts, List.set_cons_zero, List.set_cons_succ, List.getElem?_cons_zero, List.getElem?_cons_succ, List.map_cons, List.map_nil, List.cons_append, List.nil_append, List.replicate_succ, List.replicate_zero, Option.map_some, Option.map_none, Option.bind_some, if_true, if_false, Bool.not_true, Bool.not_false, Nat.sub_self, List.length_cons, List.length_nil, Bool.false_eq_true, reduceCtorEq, decide_true, decide_false, Int.reduceLT, Int.reduceLE, Int.reduceEq, Nat.reduceLeDiff, Nat.reduceAdd, eqOk_ii, eqv_ii, eqOk_ss, eqv_ss, ltOk_ii, lt_ii, l1, l2, l3, l4, Nat.zero_add, eq_self,  Bool.and_self, Bool.and_true, Bool.true_and, List.append_nil, hp], q, o, ?_, rfl⟩
        rw [w.done hp]) fuel [some (.int m), some (.int 1), some (.int STEPc), some (.int PR)] S (mu_small h0 h) ⟨m, 1, STEPc, rfl, Pw.one m h0, rfl⟩
  refine call_ret (fn := f__law_power) (en' := [some (.int l), some (.int (pw m)), some (.int o), some (.int PR)]) rfl rfl ?_
  simp only [f__law_power]
  refine (evSs_nx (S1 := S') (en1 := [some (.int m), some (.int 1), some (.int STEPc), some (.int PR)]) ?_).trans ?_
  · simp only [evSs, evS.eq_1, evS.eq_2, evS.eq_3, evS.eq_4, evS.eq_5, evS.eq_6, evS.eq_7, evS.eq_8, evS.eq_9, evS.eq_10, evS.eq_11, evE.eq_1, evE.eq_2, evE.eq_3, evE.eq_4, evE.eq_5, evE.eq_6, evE.eq_7, evE.eq_8, evE.eq_9, evE.eq_10, evE.eq_11, evE.eq_12, evE.eq_13, evE.eq_14, evE.eq_15, evE.eq_16, evE.eq_17, evE.eq_18, evE.eq_19, evEs, evO, evC, Re.bind, lift, builtin, binop, cmpop, view, isScalar, Tg.put, Tg.puts, List.set_cons_zero, List.set_cons_succ, List.getElem?_cons_zero, List.getElem?_cons_succ, List.map_cons, List.map_nil, List.cons_append, List.nil_append, List.replicate_succ, List.replicate_zero, Option.map_some, Option.map_none, Option.bind_some, if_true, if_false, Bool.not_true, Bool.not_false, Nat.sub_self, List.length_cons, List.length_nil, Bool.false_eq_true, reduceCtorEq, decide_true, decide_false, Int.reduceLT, Int.reduceLE, Int.reduceEq, Nat.reduceLeDiff, Nat.reduceAdd, eqOk_ii, eqv_ii, eqOk_ss, eqv_ss, ltOk_ii, lt_ii, l1, l2, l3, l4, Nat.zero_add, eq_self,  Bool.and_self, Bool.and_true, Bool.true_and, List.append_nil]
  refine (evSs_nx (S1 := S') (en1 := [some (.int l), some (.int (pw m)), some (.int o), some (.int PR)]) ?_).trans ?_
  · rw [evS]
    exact e
  · simp only [evSs, evS.eq_1, evS.eq_2, evS.eq_3, evS.eq_4, evS.eq_5, evS.eq_6, evS.eq_7, evS.eq_8, evS.eq_9, evS.eq_10, evS.eq_11, evE.eq_1, evE.eq_2, evE.eq_3, evE.eq_4, evE.eq_5, evE.eq_6, evE.eq_7, evE.eq_8, evE.eq_9, evE.eq_10, evE.eq_11, evE.eq_12, evE.eq_13, evE.eq_14, evE.eq_15, evE.eq_16, evE.eq_17, evE.eq_18, evE.eq_19, evEs, evO, evC, Re.bind, lift, builtin, binop, cmpop, view, isScalar, Tg.put, Tg.puts, List.set_cons_zero, List.set_cons_succ, List.getElem?_cons_zero, List.getElem?_cons_succ, List.map_cons, List.map_nil, List.cons_append, List.nil_append, List.replicate_succ, List.replicate_zero, Option.map_some, Option.map_none, Option.bind_some, if_true, if_false, Bool.not_true, Bool.not_false, Nat.sub_self, List.length_cons, List.length_nil, Bool.false_eq_true, reduceCtorEq, decide_true, decide_false, Int.reduceLT, Int.reduceLE, Int.reduceEq, Nat.reduceLeDiff, Nat.reduceAdd, eqOk_ii, eqv_ii, eqOk_ss, eqv_ss, ltOk_ii, lt_ii, l1, l2, l3, l4, Nat.zero_add, eq_self,  Bool.and_self, Bool.and_true, Bool.true_and, List.append_nil]
/-! ### octets -/
def Oct (os : List Int) : Prop := (∀ o ∈ os, 0 ≤ o ∧ o ≤ 255) ∧ os.length ≤ 300
theorem r_is_tuple_of {k : Nat} (hk : 1 ≤ k) (xs : List D) (a b : Int) (S : Sto) : callP prog k "is_tuple_of" [.tup xs, .int a, .int b] S = .ok (.bl (decide (a ≤ (xs.length : Nat)) && decide ((xs.length : Nat) ≤ b))) S := by
  obtain ⟨k, rfl, _⟩ := kk hk
  refine call_ret (fn := f_is_tuple_of) (en' := [some (.tup xs), some (.int a), some (.int b)]) rfl rfl ?_
  simp only [f_is_tuple_of, evSs, evS.eq_1, evS.eq_2, evS.eq_3, evS.eq_4, evS.eq_5, evS.eq_6, evS.eq_7, evS.eq_8, evS.eq_9, evS.eq_10, evS.eq_11, evE.eq_1, evE.eq_2, evE.eq_3, evE.eq_4, evE.eq_5, evE.eq_6, evE.eq_7, evE.eq_8, evE.eq_9, evE.eq_10, evE.eq_11, evE.eq_12, evE.eq_13, evE.eq_14, evE.eq_15, evE.eq_16, evE.eq_17, evE.eq_18, evE.eq_19, evEs, evO, evC, Re.bind, lift, builtin, binop, cmpop, view, isScalar, Tg.put, Tg.puts, List.set_cons_zero, List.set_cons_succ, List.getElem?_cons_zero, List.getElem?_cons_succ, List.map_cons, List.map_nil, List.cons_append, List.nil_append, List.replicate_succ, List.replicate_zero, Option.map_some, Option.map_none, Option.bind_some, if_true, if_false, Bool.not_true, Bool.not_false, Nat.sub_self, List.length_cons, List.length_nil, Bool.false_eq_true, reduceCtorEq, decide_true, decide_false, Int.reduceLT, Int.reduceLE, Int.reduceEq, Nat.reduceLeDiff, Nat.reduceAdd, eqOk_ii, eqv_ii, eqOk_ss, eqv_ss, ltOk_ii, lt_ii, l1, l2, l3, l4, Nat.zero_add, eq_self,  Bool.and_self, Bool.and_true, Bool.true_and, List.append_nil]
  by_cases h : a ≤ (xs.length : Nat)
  · simp only [h, decide_true, Bool.true_and]
  · simp [h]
theorem r_fits_octets {k : Nat} (hk : 2 ≤ k) {os : List Int} (h : Oct os) (S : Sto) : callP prog k "fits_octets" [.tup (os.map .int), .int 200000] S = .ok (.bl true) S := by
  obtain ⟨k, rfl, h1⟩ := kk hk
  have ht := r_is_tuple_of h1 (os.map .int) 0 200000 S
  rw [List.length_map] at ht
  have h300 := h.2
  rw [show (decide ((0 : Int) ≤ (os.length : Nat)) && decide (((os.length : Nat) : Int) ≤ 200000)) = true by simp; omega] at ht
  have hc : evE (callP prog k) (.comp [2] (.nm 2) .ex [(.loc 0)] none (.call "is_whole" [(.loc 2), (.cst (.int 0)), (.cst (.int 255))])) [some (.tup (os.map .int)), some (.int 200000), none] S = .ok (.lst (os.map fun _ => .bl true)) S := by
    refine evE_comp (S1 := S) (ds := [.tup (os.map .int)]) (w := []) (by simp only [evSs, evS.eq_1, evS.eq_2, evS.eq_3, evS.eq_4, evS.eq_5, evS.eq_6, evS.eq_7, evS.eq_8, evS.eq_9, evS.eq_10, evS.eq_11, evE.eq_1, evE.eq_2, evE.eq_3, evE.eq_4, evE.eq_5, evE.eq_6, evE.eq_7, evE.eq_8, evE.eq_9, evE.eq_10, evE.eq_11, evE.eq_12, evE.eq_13, evE.eq_14, evE.eq_15, evE.eq_16, evE.eq_17, evE.eq_18, evE.eq_19, evEs, evO, evC, Re.bind, lift, builtin, binop, cmpop, view, isScalar, Tg.put, Tg.puts, List.set_cons_zero, List.set_cons_succ, List.getElem?_cons_zero, List.getElem?_cons_succ, List.map_cons, List.map_nil, List.cons_append, List.nil_append, List.replicate_succ, List.replicate_zero, Option.map_some, Option.map_none, Option.bind_some, if_true, if_false, Bool.not_true, Bool.not_false, Nat.sub_self, List.length_cons, List.length_nil, Bool.false_eq_true, reduceCtorEq, decide_true, decide_false, Int.reduceLT, Int.reduceLE, Int.reduceEq, Nat.reduceLeDiff, Nat.reduceAdd, eqOk_ii, eqv_ii, eqOk_ss, eqv_ss, ltOk_ii, lt_ii, l1, l2, l3, l4, Nat.zero_add, eq_self,  Bool.and_self, Bool.and_true, Bool.true_and, List.append_nil]) rfl rfl (by rw [List.length_map]; unfold line; omega) ?_
    have := compLoop_map (f := bodyC (callP prog k) [2] (.nm 2) none (.call "is_whole" [(.loc 2), (.cst (.int 0)), (.cst (.int 255))]) [some (.tup (os.map .int)), some (.int 200000), none]) (S := S) (w := []) rfl (fun _ => D.bl true) (os.map .int) [] fun x hx => by
      obtain ⟨o, ho, rfl⟩ := List.mem_map.mp hx
      have hw := r_is_whole h1 o 0 255 S
      have hb := h.1 o ho
      rw [show (decide ((0 : Int) ≤ o) && decide (o ≤ 255)) = true by simp [hb.1, hb.2]] at hw
      simp only [bodyC, wipeE, evSs, evS.eq_1, evS.eq_2, evS.eq_3, evS.eq_4, evS.eq_5, evS.eq_6, evS.eq_7, evS.eq_8, evS.eq_9, evS.eq_10, evS.eq_11, evE.eq_1, evE.eq_2, evE.eq_3, evE.eq_4, evE.eq_5, evE.eq_6, evE.eq_7, evE.eq_8, evE.eq_9, evE.eq_10, evE.eq_11, evE.eq_12, evE.eq_13, evE.eq_14, evE.eq_15, evE.eq_16, evE.eq_17, evE.eq_18, evE.eq_19, evEs, evO, evC, Re.bind, lift, builtin, binop, cmpop, view, isScalar, Tg.put, Tg.puts, List.set_cons_zero, List.set_cons_succ, List.getElem?_cons_zero, List.getElem?_cons_succ, List.map_cons, List.map_nil, List.cons_append, List.nil_append, List.replicate_succ, List.replicate_zero, Option.map_some, Option.map_none, Option.bind_some, if_true, if_false, Bool.not_true, Bool.not_false, Nat.sub_self, List.length_cons, List.length_nil, Bool.false_eq_true, reduceCtorEq, decide_true, decide_false, Int.reduceLT, Int.reduceLE, Int.reduceEq, Nat.reduceLeDiff, Nat.reduceAdd, eqOk_ii, eqv_ii, eqOk_ss, eqv_ss, ltOk_ii, lt_ii, l1, l2, l3, l4, Nat.zero_add, eq_self,  Bool.and_self, Bool.and_true, Bool.true_and, List.append_nil, hw]
    rw [List.nil_append, List.map_map] at this
    exact this
  have ha : allBl (os.map fun _ => .bl true) = some (os.map fun _ => true) := allBl_map (fun _ => true) _
  have hb : ((os.map fun _ => true).all id) = true := by simp
  refine call_ret (fn := f_fits_octets) (en' := [some (.tup (os.map .int)), some (.int 200000), none]) rfl rfl ?_
  simp only [f_fits_octets, evSs, evS.eq_1, evS.eq_2, evS.eq_3, evS.eq_4, evS.eq_5, evS.eq_6, evS.eq_7, evS.eq_8, evS.eq_9, evS.eq_10, evS.eq_11, evE.eq_1, evE.eq_2, evE.eq_3, evE.eq_4, evE.eq_5, evE.eq_6, evE.eq_7, evE.eq_8, evE.eq_9, evE.eq_10, evE.eq_11, evE.eq_12, evE.eq_13, evE.eq_14, evE.eq_15, evE.eq_16, evE.eq_17, evE.eq_18, evE.eq_19, evEs, evO, evC, Re.bind, lift, builtin, binop, cmpop, view, isScalar, Tg.put, Tg.puts, List.set_cons_zero, List.set_cons_succ, List.getElem?_cons_zero, List.getElem?_cons_succ, List.map_cons, List.map_nil, List.cons_append, List.nil_append, List.replicate_succ, List.replicate_zero, Option.map_some, Option.map_none, Option.bind_some, if_true, if_false, Bool.not_true, Bool.not_false, Nat.sub_self, List.length_cons, List.length_nil, Bool.false_eq_true, reduceCtorEq, decide_true, decide_false, Int.reduceLT, Int.reduceLE, Int.reduceEq, Nat.reduceLeDiff, Nat.reduceAdd, eqOk_ii, eqv_ii, eqOk_ss, eqv_ss, ltOk_ii, lt_ii, l1, l2, l3, l4, Nat.zero_add, eq_self,  Bool.and_self, Bool.and_true, Bool.true_and, List.append_nil, ht, hc, ha, hb]
theorem r_need_octets {k : Nat} (hk : 3 ≤ k) {os : List Int} (h : Oct os) (S : Sto) : callP prog k "need_octets" [.tup (os.map .int)] S = .ok .non S := by
  obtain ⟨k, rfl, h1⟩ := kk hk
  refine call_nx (fn := f_need_octets) (en' := [some (.tup (os.map .int))]) rfl rfl ?_
  simp only [f_need_octets, evSs, evS.eq_1, evS.eq_2, evS.eq_3, evS.eq_4, evS.eq_5, evS.eq_6, evS.eq_7, evS.eq_8, evS.eq_9, evS.eq_10, evS.eq_11, evE.eq_1, evE.eq_2, evE.eq_3, evE.eq_4, evE.eq_5, evE.eq_6, evE.eq_7, evE.eq_8, evE.eq_9, evE.eq_10, evE.eq_11, evE.eq_12, evE.eq_13, evE.eq_14, evE.eq_15, evE.eq_16, evE.eq_17, evE.eq_18, evE.eq_19, evEs, evO, evC, Re.bind, lift, builtin, binop, cmpop, view, isScalar, Tg.put, Tg.puts, List.set_cons_zero, List.set_cons_succ, List.getElem?_cons_zero, List.getElem?_cons_succ, List.map_cons, List.map_nil, List.cons_append, List.nil_append, List.replicate_succ, List.replicate_zero, Option.map_some, Option.map_none, Option.bind_some, if_true, if_false, Bool.not_true, Bool.not_false, Nat.sub_self, List.length_cons, List.length_nil, Bool.false_eq_true, reduceCtorEq, decide_true, decide_false, Int.reduceLT, Int.reduceLE, Int.reduceEq, Nat.reduceLeDiff, Nat.reduceAdd, eqOk_ii, eqv_ii, eqOk_ss, eqv_ss, ltOk_ii, lt_ii, l1, l2, l3, l4, Nat.zero_add, eq_self,  Bool.and_self, Bool.and_true, Bool.true_and, List.append_nil, r_fits_octets h1 h]
theorem r_need_digest {k : Nat} (hk : 3 ≤ k) {s : Int} (h0 : 0 ≤ s) (h : s < PR) (S : Sto) : callP prog k "need_digest" [.str (text s)] S = .ok .non S := by
  obtain ⟨k, rfl, h1⟩ := kk hk
  refine call_nx (fn := f_need_digest) (en' := [some (.str (text s))]) rfl rfl ?_
  simp only [f_need_digest, evSs, evS.eq_1, evS.eq_2, evS.eq_3, evS.eq_4, evS.eq_5, evS.eq_6, evS.eq_7, evS.eq_8, evS.eq_9, evS.eq_10, evS.eq_11, evE.eq_1, evE.eq_2, evE.eq_3, evE.eq_4, evE.eq_5, evE.eq_6, evE.eq_7, evE.eq_8, evE.eq_9, evE.eq_10, evE.eq_11, evE.eq_12, evE.eq_13, evE.eq_14, evE.eq_15, evE.eq_16, evE.eq_17, evE.eq_18, evE.eq_19, evEs, evO, evC, Re.bind, lift, builtin, binop, cmpop, view, isScalar, Tg.put, Tg.puts, List.set_cons_zero, List.set_cons_succ, List.getElem?_cons_zero, List.getElem?_cons_succ, List.map_cons, List.map_nil, List.cons_append, List.nil_append, List.replicate_succ, List.replicate_zero, Option.map_some, Option.map_none, Option.bind_some, if_true, if_false, Bool.not_true, Bool.not_false, Nat.sub_self, List.length_cons, List.length_nil, Bool.false_eq_true, reduceCtorEq, decide_true, decide_false, Int.reduceLT, Int.reduceLE, Int.reduceEq, Nat.reduceLeDiff, Nat.reduceAdd, eqOk_ii, eqv_ii, eqOk_ss, eqv_ss, ltOk_ii, lt_ii, l1, l2, l3, l4, Nat.zero_add, eq_self,  Bool.and_self, Bool.and_true, Bool.true_and, List.append_nil, r_fits_text h1 h0 h]
theorem r_is_digest {k : Nat} (hk : 3 ≤ k) {s : Int} (h0 : 0 ≤ s) (h : s < PR) (S : Sto) : callP prog k "is_digest" [.str (text s)] S = .ok (.bl true) S := by
  obtain ⟨k, rfl, h1⟩ := kk hk
  refine call_ret (fn := f_is_digest) (en' := [some (.str (text s))]) rfl rfl ?_
  simp only [f_is_digest, evSs, evS.eq_1, evS.eq_2, evS.eq_3, evS.eq_4, evS.eq_5, evS.eq_6, evS.eq_7, evS.eq_8, evS.eq_9, evS.eq_10, evS.eq_11, evE.eq_1, evE.eq_2, evE.eq_3, evE.eq_4, evE.eq_5, evE.eq_6, evE.eq_7, evE.eq_8, evE.eq_9, evE.eq_10, evE.eq_11, evE.eq_12, evE.eq_13, evE.eq_14, evE.eq_15, evE.eq_16, evE.eq_17, evE.eq_18, evE.eq_19, evEs, evO, evC, Re.bind, lift, builtin, binop, cmpop, view, isScalar, Tg.put, Tg.puts, List.set_cons_zero, List.set_cons_succ, List.getElem?_cons_zero, List.getElem?_cons_succ, List.map_cons, List.map_nil, List.cons_append, List.nil_append, List.replicate_succ, List.replicate_zero, Option.map_some, Option.map_none, Option.bind_some, if_true, if_false, Bool.not_true, Bool.not_false, Nat.sub_self, List.length_cons, List.length_nil, Bool.false_eq_true, reduceCtorEq, decide_true, decide_false, Int.reduceLT, Int.reduceLE, Int.reduceEq, Nat.reduceLeDiff, Nat.reduceAdd, eqOk_ii, eqv_ii, eqOk_ss, eqv_ss, ltOk_ii, lt_ii, l1, l2, l3, l4, Nat.zero_add, eq_self,  Bool.and_self, Bool.and_true, Bool.true_and, List.append_nil, r_fits_text h1 h0 h]
theorem r_digest_in {k : Nat} (hk : 2 ≤ k) (os : List Int) (S : Sto) : callP prog k "digest_in" [.tup (os.map .int)] S = .ok (.str (text (stOn 7 os))) S := by
  obtain ⟨k, rfl, h1⟩ := kk hk
  refine call_ret (fn := f_digest_in) (en' := [some (.tup (os.map .int))]) rfl rfl ?_
  simp only [f_digest_in, evSs, evS.eq_1, evS.eq_2, evS.eq_3, evS.eq_4, evS.eq_5, evS.eq_6, evS.eq_7, evS.eq_8, evS.eq_9, evS.eq_10, evS.eq_11, evE.eq_1, evE.eq_2, evE.eq_3, evE.eq_4, evE.eq_5, evE.eq_6, evE.eq_7, evE.eq_8, evE.eq_9, evE.eq_10, evE.eq_11, evE.eq_12, evE.eq_13, evE.eq_14, evE.eq_15, evE.eq_16, evE.eq_17, evE.eq_18, evE.eq_19, evEs, evO, evC, Re.bind, lift, builtin, binop, cmpop, view, isScalar, Tg.put, Tg.puts, List.set_cons_zero, List.set_cons_succ, List.getElem?_cons_zero, List.getElem?_cons_succ, List.map_cons, List.map_nil, List.cons_append, List.nil_append, List.replicate_succ, List.replicate_zero, Option.map_some, Option.map_none, Option.bind_some, if_true, if_false, Bool.not_true, Bool.not_false, Nat.sub_self, List.length_cons, List.length_nil, Bool.false_eq_true, reduceCtorEq, decide_true, decide_false, Int.reduceLT, Int.reduceLE, Int.reduceEq, Nat.reduceLeDiff, Nat.reduceAdd, eqOk_ii, eqv_ii, eqOk_ss, eqv_ss, ltOk_ii, lt_ii, l1, l2, l3, l4, Nat.zero_add, eq_self,  Bool.and_self, Bool.and_true, Bool.true_and, List.append_nil, r_state_on h1, r_text_of h1]
theorem r_law_digest {k : Nat} (hk : 2 ≤ k) (os : List Int) (S : Sto) : callP prog k "_law_digest" [.tup (os.map .int)] S = .ok (.str (text (stOn 7 os))) S := by
  obtain ⟨k, rfl, h1⟩ := kk hk
  refine call_ret (fn := f__law_digest) (en' := [some (.tup (os.map .int))]) rfl rfl ?_
  simp only [f__law_digest, evSs, evS.eq_1, evS.eq_2, evS.eq_3, evS.eq_4, evS.eq_5, evS.eq_6, evS.eq_7, evS.eq_8, evS.eq_9, evS.eq_10, evS.eq_11, evE.eq_1, evE.eq_2, evE.eq_3, evE.eq_4, evE.eq_5, evE.eq_6, evE.eq_7, evE.eq_8, evE.eq_9, evE.eq_10, evE.eq_11, evE.eq_12, evE.eq_13, evE.eq_14, evE.eq_15, evE.eq_16, evE.eq_17, evE.eq_18, evE.eq_19, evEs, evO, evC, Re.bind, lift, builtin, binop, cmpop, view, isScalar, Tg.put, Tg.puts, List.set_cons_zero, List.set_cons_succ, List.getElem?_cons_zero, List.getElem?_cons_succ, List.map_cons, List.map_nil, List.cons_append, List.nil_append, List.replicate_succ, List.replicate_zero, Option.map_some, Option.map_none, Option.bind_some, if_true, if_false, Bool.not_true, Bool.not_false, Nat.sub_self, List.length_cons, List.length_nil, Bool.false_eq_true, reduceCtorEq, decide_true, decide_false, Int.reduceLT, Int.reduceLE, Int.reduceEq, Nat.reduceLeDiff, Nat.reduceAdd, eqOk_ii, eqv_ii, eqOk_ss, eqv_ss, ltOk_ii, lt_ii, l1, l2, l3, l4, Nat.zero_add, eq_self,  Bool.and_self, Bool.and_true, Bool.true_and, List.append_nil, r_law_state h1, r_law_hex h1]
theorem r_digest_of {k : Nat} (hk : 4 ≤ k) {os : List Int} (h : Oct os) (S : Sto) : callP prog k "digest_of" [.tup (os.map .int)] S = .ok (.str (text (stOn 7 os))) S := by
  obtain ⟨k, rfl, h1⟩ := kk hk
  refine call_ret (fn := f_digest_of) (en' := [some (.tup (os.map .int))]) rfl rfl ?_
  simp only [f_digest_of, evSs, evS.eq_1, evS.eq_2, evS.eq_3, evS.eq_4, evS.eq_5, evS.eq_6, evS.eq_7, evS.eq_8, evS.eq_9, evS.eq_10, evS.eq_11, evE.eq_1, evE.eq_2, evE.eq_3, evE.eq_4, evE.eq_5, evE.eq_6, evE.eq_7, evE.eq_8, evE.eq_9, evE.eq_10, evE.eq_11, evE.eq_12, evE.eq_13, evE.eq_14, evE.eq_15, evE.eq_16, evE.eq_17, evE.eq_18, evE.eq_19, evEs, evO, evC, Re.bind, lift, builtin, binop, cmpop, view, isScalar, Tg.put, Tg.puts, List.set_cons_zero, List.set_cons_succ, List.getElem?_cons_zero, List.getElem?_cons_succ, List.map_cons, List.map_nil, List.cons_append, List.nil_append, List.replicate_succ, List.replicate_zero, Option.map_some, Option.map_none, Option.bind_some, if_true, if_false, Bool.not_true, Bool.not_false, Nat.sub_self, List.length_cons, List.length_nil, Bool.false_eq_true, reduceCtorEq, decide_true, decide_false, Int.reduceLT, Int.reduceLE, Int.reduceEq, Nat.reduceLeDiff, Nat.reduceAdd, eqOk_ii, eqv_ii, eqOk_ss, eqv_ss, ltOk_ii, lt_ii, l1, l2, l3, l4, Nat.zero_add, eq_self,  Bool.and_self, Bool.and_true, Bool.true_and, List.append_nil, r_need_octets h1 h, r_digest_in (show 2 ≤ k by omega)]
theorem r_digest_on {k : Nat} (hk : 4 ≤ k) {s : Int} (h0 : 0 ≤ s) (hs : s < PR) {os : List Int} (h : Oct os) (S : Sto) : callP prog k "digest_on" [.str (text s), .tup (os.map .int)] S = .ok (.str (text (stOn s os))) S := by
  obtain ⟨k, rfl, h1⟩ := kk hk
  refine call_ret (fn := f_digest_on) (en' := [some (.str (text s)), some (.tup (os.map .int))]) rfl rfl ?_
  simp only [f_digest_on, evSs, evS.eq_1, evS.eq_2, evS.eq_3, evS.eq_4, evS.eq_5, evS.eq_6, evS.eq_7, evS.eq_8, evS.eq_9, evS.eq_10, evS.eq_11, evE.eq_1, evE.eq_2, evE.eq_3, evE.eq_4, evE.eq_5, evE.eq_6, evE.eq_7, evE.eq_8, evE.eq_9, evE.eq_10, evE.eq_11, evE.eq_12, evE.eq_13, evE.eq_14, evE.eq_15, evE.eq_16, evE.eq_17, evE.eq_18, evE.eq_19, evEs, evO, evC, Re.bind, lift, builtin, binop, cmpop, view, isScalar, Tg.put, Tg.puts, List.set_cons_zero, List.set_cons_succ, List.getElem?_cons_zero, List.getElem?_cons_succ, List.map_cons, List.map_nil, List.cons_append, List.nil_append, List.replicate_succ, List.replicate_zero, Option.map_some, Option.map_none, Option.bind_some, if_true, if_false, Bool.not_true, Bool.not_false, Nat.sub_self, List.length_cons, List.length_nil, Bool.false_eq_true, reduceCtorEq, decide_true, decide_false, Int.reduceLT, Int.reduceLE, Int.reduceEq, Nat.reduceLeDiff, Nat.reduceAdd, eqOk_ii, eqv_ii, eqOk_ss, eqv_ss, ltOk_ii, lt_ii, l1, l2, l3, l4, Nat.zero_add, eq_self,  Bool.and_self, Bool.and_true, Bool.true_and, List.append_nil, r_need_digest h1 h0 hs, r_need_octets h1 h, r_state_text (show 1 ≤ k by omega) h0 hs, r_state_on (show 1 ≤ k by omega), r_text_of (show 1 ≤ k by omega)]
def jn (s t m : Int) : Int := (t + (s - 7) * pw m) % PR
theorem mul_seven {s m : Int} (h0 : 0 ≤ s) (hs : s < PR) : mulOk (s - 7) (pw m) = true := by
  have h1 : (s - 7).natAbs.log2 ≤ 127 := by
    by_cases hz : (s - 7).natAbs = 0
    · rw [hz]; decide
    · have := (Nat.log2_lt hz (k := 128)).mpr (by unfold PR at hs; omega)
      omega
  have h2 := log_pr (mod_lt (STEPc ^ m.toNat)).1 (mod_lt (STEPc ^ m.toNat)).2
  have h3 : (s - 7).natAbs.log2 + (pw m).natAbs.log2 < 1000000 := by unfold pw; omega
  unfold mulOk
  simp [h3]
theorem r_digest_joined {k : Nat} (hk : 4 ≤ k) {s t m : Int} (h0 : 0 ≤ s) (hs : s < PR) (g0 : 0 ≤ t) (hg : t < PR) (m0 : 0 ≤ m) (hm : m ≤ 1000000000000000000) (S : Sto) : callP prog k "digest_joined" [.str (text s), .str (text t), .int m] S = .ok (.str (text (jn s t m))) S := by
  obtain ⟨k, rfl, h1⟩ := kk hk
  have hw := r_is_whole (show 1 ≤ k by omega) m 0 1000000000000000000 S
  rw [show (decide ((0 : Int) ≤ m) && decide (m ≤ 1000000000000000000)) = true by simp [m0, hm]] at hw
  refine call_ret (fn := f_digest_joined) (en' := [some (.str (text s)), some (.str (text t)), some (.int m)]) rfl rfl ?_
  simp only [f_digest_joined, evSs, evS.eq_1, evS.eq_2, evS.eq_3, evS.eq_4, evS.eq_5, evS.eq_6, evS.eq_7, evS.eq_8, evS.eq_9, evS.eq_10, evS.eq_11, evE.eq_1, evE.eq_2, evE.eq_3, evE.eq_4, evE.eq_5, evE.eq_6, evE.eq_7, evE.eq_8, evE.eq_9, evE.eq_10, evE.eq_11, evE.eq_12, evE.eq_13, evE.eq_14, evE.eq_15, evE.eq_16, evE.eq_17, evE.eq_18, evE.eq_19, evEs, evO, evC, Re.bind, lift, builtin, binop, cmpop, view, isScalar, Tg.put, Tg.puts, List.set_cons_zero, List.set_cons_succ, List.getElem?_cons_zero, List.getElem?_cons_succ, List.map_cons, List.map_nil, List.cons_append, List.nil_append, List.replicate_succ, List.replicate_zero, Option.map_some, Option.map_none, Option.bind_some, if_true, if_false, Bool.not_true, Bool.not_false, Nat.sub_self, List.length_cons, List.length_nil, Bool.false_eq_true, reduceCtorEq, decide_true, decide_false, Int.reduceLT, Int.reduceLE, Int.reduceEq, Nat.reduceLeDiff, Nat.reduceAdd, eqOk_ii, eqv_ii, eqOk_ss, eqv_ss, ltOk_ii, lt_ii, l1, l2, l3, l4, Nat.zero_add, eq_self,  Bool.and_self, Bool.and_true, Bool.true_and, List.append_nil, r_need_digest h1 h0 hs, r_need_digest h1 g0 hg, hw, r_state_text (show 1 ≤ k by omega) h0 hs, r_state_text (show 1 ≤ k by omega) g0 hg, r_power_of (show 1 ≤ k by omega) m0 hm, mul_seven h0 hs, r_text_of (show 1 ≤ k by omega)]
  rfl
/-! ### choices -/
def Cup (a b : Int) : Sto := [.lst [.int a, .int b]]
theorem ix0 (x y : D) : idx (.lst [x, y]) (.int 0) = some x := by rfl
theorem ix1 (x y : D) : idx (.lst [x, y]) (.int 1) = some y := by rfl
theorem set0 (x y v : D) : setRef [.lst [x, y]] (.ref 0) (.int 0) v = some [.lst [v, y]] := by rfl
theorem set1 (x y v : D) : setRef [.lst [x, y]] (.ref 0) (.int 1) v = some [.lst [x, v]] := by rfl
theorem mul_small {a : Int} {b : Int} (h : b.natAbs < 2 ^ 64) : mulOk a b = true := by unfold mulOk; simp [h]
theorem mul_smallL {a : Int} {b : Int} (h : a.natAbs < 2 ^ 64) : mulOk a b = true := by unfold mulOk; simp [h]
theorem ix_at {xs : List D} {r : Int} (h0 : 0 ≤ r) (h : r < (xs.length : Nat)) : ∃ x, xs[r.toNat]? = some x ∧ idx (.lst xs) (.int r) = some x ∧ idx (.tup xs) (.int r) = some x := by
  have hl : r.toNat < xs.length := by omega
  have e : ixAt xs.length r = some r.toNat := by unfold ixAt; rw [if_pos h0, if_pos h]
  refine ⟨xs[r.toNat], List.getElem?_eq_getElem hl, ?_, ?_⟩
  · simp only [idx, atI, e, Option.bind_some, List.getElem?_eq_getElem hl]
  · simp only [idx, atI, e, Option.bind_some, List.getElem?_eq_getElem hl]
theorem r_law_cup {k : Nat} (hk : 1 ≤ k) (ns : List Int) (h : ns.length ≤ 63) : ∃ a b, callP prog k "_law_cup" [.lst (ns.map .int)] [] = .ok (.ref 0) (Cup a b) := by
  obtain ⟨k, rfl, _⟩ := kk hk
  have hx : ∃ c : Int, idx (.lst (ns.map D.int ++ [.int 0])) (.int 0) = some (.int c) := by
    obtain ⟨x, e1, e2, _⟩ := ix_at (xs := ns.map D.int ++ [.int 0]) (r := 0) (by omega) (by rw [List.length_append]; simp)
    rw [e2]
    cases ns with
    | nil => exact ⟨0, e1.symm⟩
    | cons n r => exact ⟨n, e1.symm⟩
  obtain ⟨c, hc⟩ := hx
  have hl : (ns.map D.int).length + 1 ≤ line := by rw [List.length_map]; unfold line; omega
  have hm : ∀ c : Int, mulOk c 403 = true := fun c => mul_small (by decide)
  have hp : powOk 10 18 = true := by decide +kernel
  have hd : divOk 139 = true := by decide +kernel
  generalize hq : (if c < 0 then -c else c) = q
  by_cases hg : (10 ^ 18 : Int) ≤ q
  · refine ⟨q / 139, (q * 403 + 4467) % 2077503101 + 273, call_ret (fn := f__law_cup) (en' := [some (.lst (ns.map .int)), some (.int q)]) rfl rfl ?_⟩
    simp only [f__law_cup, evSs, evS.eq_1, evS.eq_2, evS.eq_3, evS.eq_4, evS.eq_5, evS.eq_6, evS.eq_7, evS.eq_8, evS.eq_9, evS.eq_10, evS.eq_11, evE.eq_1, evE.eq_2, evE.eq_3, evE.eq_4, evE.eq_5, evE.eq_6, evE.eq_7, evE.eq_8, evE.eq_9, evE.eq_10, evE.eq_11, evE.eq_12, evE.eq_13, evE.eq_14, evE.eq_15, evE.eq_16, evE.eq_17, evE.eq_18, evE.eq_19, evEs, evO, evC, Re.bind, lift, builtin, binop, cmpop, view, isScalar, Tg.put, Tg.puts, List.set_cons_zero, List.set_cons_succ, List.getElem?_cons_zero, List.getElem?_cons_succ, List.map_cons, List.map_nil, List.cons_append, List.nil_append, List.replicate_succ, List.replicate_zero, Option.map_some, Option.map_none, Option.bind_some, if_true, if_false, Bool.not_true, Bool.not_false, Nat.sub_self, List.length_cons, List.length_nil, Bool.false_eq_true, reduceCtorEq, decide_true, decide_false, Int.reduceLT, Int.reduceLE, Int.reduceEq, Nat.reduceLeDiff, Nat.reduceAdd, eqOk_ii, eqv_ii, eqOk_ss, eqv_ss, ltOk_ii, lt_ii, l1, l2, l3, l4, Nat.zero_add, eq_self,  Bool.and_self, Bool.and_true, Bool.true_and, List.append_nil, hl, hc, hq, hp, hm, hd, show ((18 : Int).toNat) = 18 by rfl, hg, Cup]
  · refine ⟨0, (q * 403 + 4467) % 2077503101 + 273, call_ret (fn := f__law_cup) (en' := [some (.lst (ns.map .int)), some (.int q)]) rfl rfl ?_⟩
    simp only [f__law_cup, evSs, evS.eq_1, evS.eq_2, evS.eq_3, evS.eq_4, evS.eq_5, evS.eq_6, evS.eq_7, evS.eq_8, evS.eq_9, evS.eq_10, evS.eq_11, evE.eq_1, evE.eq_2, evE.eq_3, evE.eq_4, evE.eq_5, evE.eq_6, evE.eq_7, evE.eq_8, evE.eq_9, evE.eq_10, evE.eq_11, evE.eq_12, evE.eq_13, evE.eq_14, evE.eq_15, evE.eq_16, evE.eq_17, evE.eq_18, evE.eq_19, evEs, evO, evC, Re.bind, lift, builtin, binop, cmpop, view, isScalar, Tg.put, Tg.puts, List.set_cons_zero, List.set_cons_succ, List.getElem?_cons_zero, List.getElem?_cons_succ, List.map_cons, List.map_nil, List.cons_append, List.nil_append, List.replicate_succ, List.replicate_zero, Option.map_some, Option.map_none, Option.bind_some, if_true, if_false, Bool.not_true, Bool.not_false, Nat.sub_self, List.length_cons, List.length_nil, Bool.false_eq_true, reduceCtorEq, decide_true, decide_false, Int.reduceLT, Int.reduceLE, Int.reduceEq, Nat.reduceLeDiff, Nat.reduceAdd, eqOk_ii, eqv_ii, eqOk_ss, eqv_ss, ltOk_ii, lt_ii, l1, l2, l3, l4, Nat.zero_add, eq_self,  Bool.and_self, Bool.and_true, Bool.true_and, List.append_nil, hl, hc, hq, hp, hm, hd, show ((18 : Int).toNat) = 18 by rfl, hg, Cup]
theorem r_law_roll {k : Nat} (hk : 1 ≤ k) {m : Int} (hm : 0 < m) (hd : divOk m = true) (a b : Int) : ∃ r a' b', callP prog k "_law_roll" [.ref 0, .int m] (Cup a b) = .ok (.int r) (Cup a' b') ∧ 0 ≤ r ∧ r < m := by
  obtain ⟨k, rfl, _⟩ := kk hk
  by_cases h : 0 < a
  · refine ⟨a % m, a / m, b, call_ret (fn := f__law_roll) (en' := [some (.ref 0), some (.int m), none, some (.int (a % m))]) rfl rfl ?_, Int.emod_nonneg _ (by omega), Int.emod_lt_of_pos _ hm⟩
    simp only [f__law_roll, Cup, evSs, evS.eq_1, evS.eq_2, evS.eq_3, evS.eq_4, evS.eq_5, evS.eq_6, evS.eq_7, evS.eq_8, evS.eq_9, evS.eq_10, evS.eq_11, evE.eq_1, evE.eq_2, evE.eq_3, evE.eq_4, evE.eq_5, evE.eq_6, evE.eq_7, evE.eq_8, evE.eq_9, evE.eq_10, evE.eq_11, evE.eq_12, evE.eq_13, evE.eq_14, evE.eq_15, evE.eq_16, evE.eq_17, evE.eq_18, evE.eq_19, evEs, evO, evC, Re.bind, lift, builtin, binop, cmpop, view, isScalar, Tg.put, Tg.puts, List.set_cons_zero, List.set_cons_succ, List.getElem?_cons_zero, List.getElem?_cons_succ, List.map_cons, List.map_nil, List.cons_append, List.nil_append, List.replicate_succ, List.replicate_zero, Option.map_some, Option.map_none, Option.bind_some, if_true, if_false, Bool.not_true, Bool.not_false, Nat.sub_self, List.length_cons, List.length_nil, Bool.false_eq_true, reduceCtorEq, decide_true, decide_false, Int.reduceLT, Int.reduceLE, Int.reduceEq, Nat.reduceLeDiff, Nat.reduceAdd, eqOk_ii, eqv_ii, eqOk_ss, eqv_ss, ltOk_ii, lt_ii, l1, l2, l3, l4, Nat.zero_add, eq_self,  Bool.and_self, Bool.and_true, Bool.true_and, List.append_nil, ix0, h, hm, hd, set0]
  · have h1 : ∀ c : Int, mulOk c 31331 = true := fun c => mul_small (by decide)
    generalize hq : (b * 31331 + 8227) % 2147483399 = q
    have h2 : mulOk q (q + 405) = true := mul_smallL (by omega)
    have h3 : divOk 797 = true := by decide +kernel
    refine ⟨q * (q + 405) % 2147483563 / 797 % m, a, q, call_ret (fn := f__law_roll) (en' := [some (.ref 0), some (.int m), some (.int (q * (q + 405) % 2147483563)), none]) rfl rfl ?_, Int.emod_nonneg _ (by omega), Int.emod_lt_of_pos _ hm⟩
    simp only [f__law_roll, Cup, evSs, evS.eq_1, evS.eq_2, evS.eq_3, evS.eq_4, evS.eq_5, evS.eq_6, evS.eq_7, evS.eq_8, evS.eq_9, evS.eq_10, evS.eq_11, evE.eq_1, evE.eq_2, evE.eq_3, evE.eq_4, evE.eq_5, evE.eq_6, evE.eq_7, evE.eq_8, evE.eq_9, evE.eq_10, evE.eq_11, evE.eq_12, evE.eq_13, evE.eq_14, evE.eq_15, evE.eq_16, evE.eq_17, evE.eq_18, evE.eq_19, evEs, evO, evC, Re.bind, lift, builtin, binop, cmpop, view, isScalar, Tg.put, Tg.puts, List.set_cons_zero, List.set_cons_succ, List.getElem?_cons_zero, List.getElem?_cons_succ, List.map_cons, List.map_nil, List.cons_append, List.nil_append, List.replicate_succ, List.replicate_zero, Option.map_some, Option.map_none, Option.bind_some, if_true, if_false, Bool.not_true, Bool.not_false, Nat.sub_self, List.length_cons, List.length_nil, Bool.false_eq_true, reduceCtorEq, decide_true, decide_false, Int.reduceLT, Int.reduceLE, Int.reduceEq, Nat.reduceLeDiff, Nat.reduceAdd, eqOk_ii, eqv_ii, eqOk_ss, eqv_ss, ltOk_ii, lt_ii, l1, l2, l3, l4, Nat.zero_add, eq_self,  Bool.and_self, Bool.and_true, Bool.true_and, List.append_nil, ix0, ix1, h, hm, h1, h2, h3, set1, hq]
theorem div_small {m : Int} (h0 : 0 < m) (h : m < 1073741824) : divOk m = true := by unfold divOk; simp [h0, h]
theorem div_log {m : Int} (h0 : 0 < m) (h : m ≤ PR) : divOk m = true := by
  have : m.natAbs.log2 < 9000 := by
    have := (Nat.log2_lt (show m.natAbs ≠ 0 by omega) (k := 128)).mpr (by unfold PR at h; omega)
    omega
  unfold divOk
  simp [h0, this]
theorem r_law_some {k : Nat} (hk : 2 ≤ k) {xs : List D} (h0 : xs ≠ []) (h : xs.length < 1000) (a b : Int) : ∃ x a' b', callP prog k "_law_some" [.ref 0, .lst xs] (Cup a b) = .ok x (Cup a' b') ∧ x ∈ xs := by
  obtain ⟨k, rfl, h1⟩ := kk hk
  have hp : 0 < xs.length := List.length_pos_iff.mpr h0
  obtain ⟨r, a', b', e, r0, r1⟩ := r_law_roll h1 (m := (xs.length : Nat)) (by omega) (div_small (by omega) (by omega)) a b
  obtain ⟨x, e1, e2, _⟩ := ix_at r0 r1
  refine ⟨x, a', b', call_ret (fn := f__law_some) (en' := [some (.ref 0), some (.lst xs)]) rfl rfl ?_, List.mem_of_getElem? e1⟩
  simp only [f__law_some, evSs, evS.eq_1, evS.eq_2, evS.eq_3, evS.eq_4, evS.eq_5, evS.eq_6, evS.eq_7, evS.eq_8, evS.eq_9, evS.eq_10, evS.eq_11, evE.eq_1, evE.eq_2, evE.eq_3, evE.eq_4, evE.eq_5, evE.eq_6, evE.eq_7, evE.eq_8, evE.eq_9, evE.eq_10, evE.eq_11, evE.eq_12, evE.eq_13, evE.eq_14, evE.eq_15, evE.eq_16, evE.eq_17, evE.eq_18, evE.eq_19, evEs, evO, evC, Re.bind, lift, builtin, binop, cmpop, view, isScalar, Tg.put, Tg.puts, List.set_cons_zero, List.set_cons_succ, List.getElem?_cons_zero, List.getElem?_cons_succ, List.map_cons, List.map_nil, List.cons_append, List.nil_append, List.replicate_succ, List.replicate_zero, Option.map_some, Option.map_none, Option.bind_some, if_true, if_false, Bool.not_true, Bool.not_false, Nat.sub_self, List.length_cons, List.length_nil, Bool.false_eq_true, reduceCtorEq, decide_true, decide_false, Int.reduceLT, Int.reduceLE, Int.reduceEq, Nat.reduceLeDiff, Nat.reduceAdd, eqOk_ii, eqv_ii, eqOk_ss, eqv_ss, ltOk_ii, lt_ii, l1, l2, l3, l4, Nat.zero_add, eq_self,  Bool.and_self, Bool.and_true, Bool.true_and, List.append_nil, e, e2]
theorem r_law_file {k : Nat} (hk : 3 ≤ k) {m : Int} (h0 : 0 ≤ m) (h : m ≤ 200) (a b : Int) : ∃ os a' b', callP prog k "_law_file" [.ref 0, .int m] (Cup a b) = .ok (.tup (os.map .int)) (Cup a' b') ∧ Oct os := by
  obtain ⟨k, rfl, h1⟩ := kk hk
  obtain ⟨base, a1, b1, e1, p1, p2⟩ := r_law_roll (show 1 ≤ k by omega) (m := 256) (by omega) (by decide +kernel) a b
  obtain ⟨n, a2, b2, e2, q1, q2⟩ := r_law_roll (show 1 ≤ k by omega) (m := m + 1) (by omega) (div_small (by omega) (by omega)) a1 b1
  obtain ⟨ys, S', e3, hl, os, a3, b3, hy, ho, rfl⟩ := compLoop_inv (f := bodyC (callP prog k) [3] (.nm 3) none (.call "_law_some" [(.loc 0), (.lst [(.loc 2), (.loc 2), (.call "_law_roll" [(.loc 0), (.cst (.int 256))])])]) [some (.ref 0), some (.int m), some (.int base), none]) (w := [])
    (fun acc S => ∃ (os : List Int) (a b : Int), acc = os.map .int ∧ (∀ o ∈ os, 0 ≤ o ∧ o ≤ 255) ∧ S = Cup a b) (rangeD 0 n) [] (Cup a2 b2) (fun x acc S _ hq => by
      obtain ⟨os, a, b, rfl, ho, rfl⟩ := hq
      obtain ⟨c, a', b', f1, g1, g2⟩ := r_law_roll (show 1 ≤ k by omega) (m := 256) (by omega) (by decide +kernel) a b
      obtain ⟨y, a'', b'', f2, hm⟩ := r_law_some h1 (xs := [.int base, .int base, .int c]) (by simp) (by simp) a' b'
      have hy : ∃ o : Int, y = .int o ∧ 0 ≤ o ∧ o ≤ 255 := by
        simp only [List.mem_cons, List.not_mem_nil, or_false] at hm
        rcases hm with rfl | rfl | rfl
        · exact ⟨base, rfl, p1, by omega⟩
        · exact ⟨base, rfl, p1, by omega⟩
        · exact ⟨c, rfl, g1, by omega⟩
      obtain ⟨o, rfl, o1, o2⟩ := hy
      refine ⟨.int o, Cup a'' b'', ?_, rfl, os ++ [o], a'', b'', by rw [List.map_append]; rfl, fun q hq => ?_, rfl⟩
      · simp only [bodyC, wipeE, evSs, evS.eq_1, evS.eq_2, evS.eq_3, evS.eq_4, evS.eq_5, evS.eq_6, evS.eq_7, evS.eq_8, evS.eq_9, evS.eq_10, evS.eq_11, evE.eq_1, evE.eq_2, evE.eq_3, evE.eq_4, evE.eq_5, evE.eq_6, evE.eq_7, evE.eq_8, evE.eq_9, evE.eq_10, evE.eq_11, evE.eq_12, evE.eq_13, evE.eq_14, evE.eq_15, evE.eq_16, evE.eq_17, evE.eq_18, evE.eq_19, evEs, evO, evC, Re.bind, lift, builtin, binop, cmpop, view, isScalar, Tg.put, Tg.puts, List.set_cons_zero, List.set_cons_succ, List.getElem?_cons_zero, List.getElem?_cons_succ, List.map_cons, List.map_nil, List.cons_append, List.nil_append, List.replicate_succ, List.replicate_zero, Option.map_some, Option.map_none, Option.bind_some, if_true, if_false, Bool.not_true, Bool.not_false, Nat.sub_self, List.length_cons, List.length_nil, Bool.false_eq_true, reduceCtorEq, decide_true, decide_false, Int.reduceLT, Int.reduceLE, Int.reduceEq, Nat.reduceLeDiff, Nat.reduceAdd, eqOk_ii, eqv_ii, eqOk_ss, eqv_ss, ltOk_ii, lt_ii, l1, l2, l3, l4, Nat.zero_add, eq_self,  Bool.and_self, Bool.and_true, Bool.true_and, List.append_nil, f1, f2]
      · rcases List.mem_append.mp hq with hq | hq
        · exact ho q hq
        · rw [List.mem_singleton.mp hq]; exact ⟨o1, o2⟩) ⟨[], a2, b2, rfl, (fun o h => by simp at h), rfl⟩
  rw [List.nil_append] at e3 hy
  subst hy
  have hlen : os.length = n.toNat := by rw [List.length_map, rng_len] at hl; exact hl
  refine ⟨os, a3, b3, call_ret (fn := f__law_file) (en' := [some (.ref 0), some (.int m), some (.int base), none]) rfl rfl ?_, ho, by omega⟩
  have hc : evE (callP prog k) (.comp [3] (.nm 3) .range [(.call "_law_roll" [(.loc 0), (.bin .add (.loc 1) (.cst (.int 1)))])] none (.call "_law_some" [(.loc 0), (.lst [(.loc 2), (.loc 2), (.call "_law_roll" [(.loc 0), (.cst (.int 256))])])])) [some (.ref 0), some (.int m), some (.int base), none] (Cup a1 b1) = .ok (.lst (os.map .int)) (Cup a3 b3) := by
    refine evE_comp (S1 := Cup a2 b2) (ds := [.int n]) (w := []) (by simp only [evSs, evS.eq_1, evS.eq_2, evS.eq_3, evS.eq_4, evS.eq_5, evS.eq_6, evS.eq_7, evS.eq_8, evS.eq_9, evS.eq_10, evS.eq_11, evE.eq_1, evE.eq_2, evE.eq_3, evE.eq_4, evE.eq_5, evE.eq_6, evE.eq_7, evE.eq_8, evE.eq_9, evE.eq_10, evE.eq_11, evE.eq_12, evE.eq_13, evE.eq_14, evE.eq_15, evE.eq_16, evE.eq_17, evE.eq_18, evE.eq_19, evEs, evO, evC, Re.bind, lift, builtin, binop, cmpop, view, isScalar, Tg.put, Tg.puts, List.set_cons_zero, List.set_cons_succ, List.getElem?_cons_zero, List.getElem?_cons_succ, List.map_cons, List.map_nil, List.cons_append, List.nil_append, List.replicate_succ, List.replicate_zero, Option.map_some, Option.map_none, Option.bind_some, if_true, if_false, Bool.not_true, Bool.not_false, Nat.sub_self, List.length_cons, List.length_nil, Bool.false_eq_true, reduceCtorEq, decide_true, decide_false, Int.reduceLT, Int.reduceLE, Int.reduceEq, Nat.reduceLeDiff, Nat.reduceAdd, eqOk_ii, eqv_ii, eqOk_ss, eqv_ss, ltOk_ii, lt_ii, l1, l2, l3, l4, Nat.zero_add, eq_self,  Bool.and_self, Bool.and_true, Bool.true_and, List.append_nil, e2]) (walk_rng q1 (by omega)) rfl (by rw [rng_len]; unfold line; omega) e3
  simp only [f__law_file, evSs, evS.eq_1, evS.eq_2, evS.eq_3, evS.eq_4, evS.eq_5, evS.eq_6, evS.eq_7, evS.eq_8, evS.eq_9, evS.eq_10, evS.eq_11, evE.eq_1, evE.eq_2, evE.eq_3, evE.eq_4, evE.eq_5, evE.eq_6, evE.eq_7, evE.eq_8, evE.eq_9, evE.eq_10, evE.eq_11, evE.eq_12, evE.eq_13, evE.eq_14, evE.eq_15, evE.eq_16, evE.eq_17, evE.eq_18, evE.eq_19, evEs, evO, evC, Re.bind, lift, builtin, binop, cmpop, view, isScalar, Tg.put, Tg.puts, List.set_cons_zero, List.set_cons_succ, List.getElem?_cons_zero, List.getElem?_cons_succ, List.map_cons, List.map_nil, List.cons_append, List.nil_append, List.replicate_succ, List.replicate_zero, Option.map_some, Option.map_none, Option.bind_some, if_true, if_false, Bool.not_true, Bool.not_false, Nat.sub_self, List.length_cons, List.length_nil, Bool.false_eq_true, reduceCtorEq, decide_true, decide_false, Int.reduceLT, Int.reduceLE, Int.reduceEq, Nat.reduceLeDiff, Nat.reduceAdd, eqOk_ii, eqv_ii, eqOk_ss, eqv_ss, ltOk_ii, lt_ii, l1, l2, l3, l4, Nat.zero_add, eq_self,  Bool.and_self, Bool.and_true, Bool.true_and, List.append_nil, e1, hc]
/-! ### alike -/
def flat (d : D) : Bool := match d with | .str _ => true | .bl _ => true | _ => false
theorem r_same_flat {k : Nat} (hk : 1 ≤ k) {d : D} (h : flat d = true) (S : Sto) : callP prog k "_law_same" [d, d] S = .ok (.bl true) S := by
  obtain ⟨k, rfl, _⟩ := kk hk
  cases d <;> first | (cases h; done) | skip
  · rename_i b
    refine call_ret (fn := f__law_same) (en' := [some (.bl b), some (.bl b), none]) rfl rfl ?_
    cases b
    · simp only [f__law_same, evSs, evS.eq_1, evS.eq_2, evS.eq_3, evS.eq_4, evS.eq_5, evS.eq_6, evS.eq_7, evS.eq_8, evS.eq_9, evS.eq_10, evS.eq_11, evE.eq_1, evE.eq_2, evE.eq_3, evE.eq_4, evE.eq_5, evE.eq_6, evE.eq_7, evE.eq_8, evE.eq_9, evE.eq_10, evE.eq_11, evE.eq_12, evE.eq_13, evE.eq_14, evE.eq_15, evE.eq_16, evE.eq_17, evE.eq_18, evE.eq_19, evEs, evO, evC, Re.bind, lift, builtin, binop, cmpop, view, isScalar, Tg.put, Tg.puts, List.set_cons_zero, List.set_cons_succ, List.getElem?_cons_zero, List.getElem?_cons_succ, List.map_cons, List.map_nil, List.cons_append, List.nil_append, List.replicate_succ, List.replicate_zero, Option.map_some, Option.map_none, Option.bind_some, if_true, if_false, Bool.not_true, Bool.not_false, Nat.sub_self, List.length_cons, List.length_nil, Bool.false_eq_true, reduceCtorEq, decide_true, decide_false, Int.reduceLT, Int.reduceLE, Int.reduceEq, Nat.reduceLeDiff, Nat.reduceAdd, eqOk_ii, eqv_ii, eqOk_ss, eqv_ss, ltOk_ii, lt_ii, l1, l2, l3, l4, Nat.zero_add, eq_self,  Bool.and_self, Bool.and_true, Bool.true_and, List.append_nil]
    · simp only [f__law_same, evSs, evS.eq_1, evS.eq_2, evS.eq_3, evS.eq_4, evS.eq_5, evS.eq_6, evS.eq_7, evS.eq_8, evS.eq_9, evS.eq_10, evS.eq_11, evE.eq_1, evE.eq_2, evE.eq_3, evE.eq_4, evE.eq_5, evE.eq_6, evE.eq_7, evE.eq_8, evE.eq_9, evE.eq_10, evE.eq_11, evE.eq_12, evE.eq_13, evE.eq_14, evE.eq_15, evE.eq_16, evE.eq_17, evE.eq_18, evE.eq_19, evEs, evO, evC, Re.bind, lift, builtin, binop, cmpop, view, isScalar, Tg.put, Tg.puts, List.set_cons_zero, List.set_cons_succ, List.getElem?_cons_zero, List.getElem?_cons_succ, List.map_cons, List.map_nil, List.cons_append, List.nil_append, List.replicate_succ, List.replicate_zero, Option.map_some, Option.map_none, Option.bind_some, if_true, if_false, Bool.not_true, Bool.not_false, Nat.sub_self, List.length_cons, List.length_nil, Bool.false_eq_true, reduceCtorEq, decide_true, decide_false, Int.reduceLT, Int.reduceLE, Int.reduceEq, Nat.reduceLeDiff, Nat.reduceAdd, eqOk_ii, eqv_ii, eqOk_ss, eqv_ss, ltOk_ii, lt_ii, l1, l2, l3, l4, Nat.zero_add, eq_self,  Bool.and_self, Bool.and_true, Bool.true_and, List.append_nil]
  · rename_i x
    refine call_ret (fn := f__law_same) (en' := [some (.str x), some (.str x), none]) rfl rfl ?_
    simp only [f__law_same, evSs, evS.eq_1, evS.eq_2, evS.eq_3, evS.eq_4, evS.eq_5, evS.eq_6, evS.eq_7, evS.eq_8, evS.eq_9, evS.eq_10, evS.eq_11, evE.eq_1, evE.eq_2, evE.eq_3, evE.eq_4, evE.eq_5, evE.eq_6, evE.eq_7, evE.eq_8, evE.eq_9, evE.eq_10, evE.eq_11, evE.eq_12, evE.eq_13, evE.eq_14, evE.eq_15, evE.eq_16, evE.eq_17, evE.eq_18, evE.eq_19, evEs, evO, evC, Re.bind, lift, builtin, binop, cmpop, view, isScalar, Tg.put, Tg.puts, List.set_cons_zero, List.set_cons_succ, List.getElem?_cons_zero, List.getElem?_cons_succ, List.map_cons, List.map_nil, List.cons_append, List.nil_append, List.replicate_succ, List.replicate_zero, Option.map_some, Option.map_none, Option.bind_some, if_true, if_false, Bool.not_true, Bool.not_false, Nat.sub_self, List.length_cons, List.length_nil, Bool.false_eq_true, reduceCtorEq, decide_true, decide_false, Int.reduceLT, Int.reduceLE, Int.reduceEq, Nat.reduceLeDiff, Nat.reduceAdd, eqOk_ii, eqv_ii, eqOk_ss, eqv_ss, ltOk_ii, lt_ii, l1, l2, l3, l4, Nat.zero_add, eq_self,  Bool.and_self, Bool.and_true, Bool.true_and, List.append_nil]
theorem all_true {α : Type} (xs : List α) : (allBl (xs.map fun _ => .bl true)).map (fun bs => D.bl (bs.all id)) = some (.bl true) := by
  rw [allBl_map (fun _ => true)]
  simp
theorem ev_all {k : Nat} {S : Sto} {c : Ex} {en : Ly.Env} {α : Type} {l : List α} (hc : evE (callP prog k) c en S = .ok (.lst (l.map fun _ => .bl true)) S) : evE (callP prog k) (.bi .all [c]) en S = .ok (.bl true) S := by
  rw [evE, evEs, hc]
  simp only [Re.bind, evEs, List.map_cons, List.map_nil, view, builtin, lift, all_true]
theorem r_same_tup {k : Nat} (hk : 2 ≤ k) {xs : List D} (hl : xs.length ≤ 100) (h : ∀ x ∈ xs, flat x = true) (S : Sto) : callP prog k "_law_same" [.tup xs, .tup xs] S = .ok (.bl true) S := by
  obtain ⟨k, rfl, h1⟩ := kk hk
  have hc : evE (callP prog k) (.comp [2] (.nm 2) .range [(.bi .len [(.loc 1)])] none (.call "_law_same" [(.idx (.loc 0) (.loc 2)), (.idx (.loc 1) (.loc 2))])) [some (.tup xs), some (.tup xs), none] S = .ok (.lst ((rangeD 0 (xs.length : Nat)).map fun _ => .bl true)) S := by
    refine evE_comp (S1 := S) (ds := [.int (xs.length : Nat)]) (w := []) (by simp only [evSs, evS.eq_1, evS.eq_2, evS.eq_3, evS.eq_4, evS.eq_5, evS.eq_6, evS.eq_7, evS.eq_8, evS.eq_9, evS.eq_10, evS.eq_11, evE.eq_1, evE.eq_2, evE.eq_3, evE.eq_4, evE.eq_5, evE.eq_6, evE.eq_7, evE.eq_8, evE.eq_9, evE.eq_10, evE.eq_11, evE.eq_12, evE.eq_13, evE.eq_14, evE.eq_15, evE.eq_16, evE.eq_17, evE.eq_18, evE.eq_19, evEs, evO, evC, Re.bind, lift, builtin, binop, cmpop, view, isScalar, Tg.put, Tg.puts, List.set_cons_zero, List.set_cons_succ, List.getElem?_cons_zero, List.getElem?_cons_succ, List.map_cons, List.map_nil, List.cons_append, List.nil_append, List.replicate_succ, List.replicate_zero, Option.map_some, Option.map_none, Option.bind_some, if_true, if_false, Bool.not_true, Bool.not_false, Nat.sub_self, List.length_cons, List.length_nil, Bool.false_eq_true, reduceCtorEq, decide_true, decide_false, Int.reduceLT, Int.reduceLE, Int.reduceEq, Nat.reduceLeDiff, Nat.reduceAdd, eqOk_ii, eqv_ii, eqOk_ss, eqv_ss, ltOk_ii, lt_ii, l1, l2, l3, l4, Nat.zero_add, eq_self,  Bool.and_self, Bool.and_true, Bool.true_and, List.append_nil]) (walk_rng (by omega) (by omega)) rfl (by rw [rng_len]; unfold line; omega) ?_
    have := compLoop_map (f := bodyC (callP prog k) [2] (.nm 2) none (.call "_law_same" [(.idx (.loc 0) (.loc 2)), (.idx (.loc 1) (.loc 2))]) [some (.tup xs), some (.tup xs), none]) (S := S) (w := []) rfl (fun _ => D.bl true) (rangeD 0 (xs.length : Nat)) [] fun x hx => by
      obtain ⟨i, hi, rfl⟩ := List.mem_map.mp hx
      have hi := List.mem_range.mp hi
      obtain ⟨y, e1, _, e3⟩ := ix_at (xs := xs) (r := 0 + (i : Int)) (by omega) (by omega)
      have hs := r_same_flat h1 (h y (List.mem_of_getElem? e1)) S
      simp only [bodyC, wipeE, evSs, evS.eq_1, evS.eq_2, evS.eq_3, evS.eq_4, evS.eq_5, evS.eq_6, evS.eq_7, evS.eq_8, evS.eq_9, evS.eq_10, evS.eq_11, evE.eq_1, evE.eq_2, evE.eq_3, evE.eq_4, evE.eq_5, evE.eq_6, evE.eq_7, evE.eq_8, evE.eq_9, evE.eq_10, evE.eq_11, evE.eq_12, evE.eq_13, evE.eq_14, evE.eq_15, evE.eq_16, evE.eq_17, evE.eq_18, evE.eq_19, evEs, evO, evC, Re.bind, lift, builtin, binop, cmpop, view, isScalar, Tg.put, Tg.puts, List.set_cons_zero, List.set_cons_succ, List.getElem?_cons_zero, List.getElem?_cons_succ, List.map_cons, List.map_nil, List.cons_append, List.nil_append, List.replicate_succ, List.replicate_zero, Option.map_some, Option.map_none, Option.bind_some, if_true, if_false, Bool.not_true, Bool.not_false, Nat.sub_self, List.length_cons, List.length_nil, Bool.false_eq_true, reduceCtorEq, decide_true, decide_false, Int.reduceLT, Int.reduceLE, Int.reduceEq, Nat.reduceLeDiff, Nat.reduceAdd, eqOk_ii, eqv_ii, eqOk_ss, eqv_ss, ltOk_ii, lt_ii, l1, l2, l3, l4, Nat.zero_add, eq_self,  Bool.and_self, Bool.and_true, Bool.true_and, List.append_nil, e3, hs]
    rw [List.nil_append] at this
    exact this
  refine call_ret (fn := f__law_same) (en' := [some (.tup xs), some (.tup xs), none]) rfl rfl ?_
  simp only [f__law_same]
  have e1 : evE (callP prog k) (.bi .isTuple [(.loc 1)]) [some (.tup xs), some (.tup xs), none] S = .ok (.bl true) S := by simp only [evSs, evS.eq_1, evS.eq_2, evS.eq_3, evS.eq_4, evS.eq_5, evS.eq_6, evS.eq_7, evS.eq_8, evS.eq_9, evS.eq_10, evS.eq_11, evE.eq_1, evE.eq_2, evE.eq_3, evE.eq_4, evE.eq_5, evE.eq_6, evE.eq_7, evE.eq_8, evE.eq_9, evE.eq_10, evE.eq_11, evE.eq_12, evE.eq_13, evE.eq_14, evE.eq_15, evE.eq_16, evE.eq_17, evE.eq_18, evE.eq_19, evEs, evO, evC, Re.bind, lift, builtin, binop, cmpop, view, isScalar, Tg.put, Tg.puts, List.set_cons_zero, List.set_cons_succ, List.getElem?_cons_zero, List.getElem?_cons_succ, List.map_cons, List.map_nil, List.cons_append, List.nil_append, List.replicate_succ, List.replicate_zero, Option.map_some, Option.map_none, Option.bind_some, if_true, if_false, Bool.not_true, Bool.not_false, Nat.sub_self, List.length_cons, List.length_nil, Bool.false_eq_true, reduceCtorEq, decide_true, decide_false, Int.reduceLT, Int.reduceLE, Int.reduceEq, Nat.reduceLeDiff, Nat.reduceAdd, eqOk_ii, eqv_ii, eqOk_ss, eqv_ss, ltOk_ii, lt_ii, l1, l2, l3, l4, Nat.zero_add, eq_self,  Bool.and_self, Bool.and_true, Bool.true_and, List.append_nil]
  have e2 : evE (callP prog k) (.or_ (.not_ (.bi .isTuple [(.loc 0)])) (.cmp .ne (.bi .len [(.loc 0)]) (.bi .len [(.loc 1)]))) [some (.tup xs), some (.tup xs), none] S = .ok (.bl false) S := by simp only [evSs, evS.eq_1, evS.eq_2, evS.eq_3, evS.eq_4, evS.eq_5, evS.eq_6, evS.eq_7, evS.eq_8, evS.eq_9, evS.eq_10, evS.eq_11, evE.eq_1, evE.eq_2, evE.eq_3, evE.eq_4, evE.eq_5, evE.eq_6, evE.eq_7, evE.eq_8, evE.eq_9, evE.eq_10, evE.eq_11, evE.eq_12, evE.eq_13, evE.eq_14, evE.eq_15, evE.eq_16, evE.eq_17, evE.eq_18, evE.eq_19, evEs, evO, evC, Re.bind, lift, builtin, binop, cmpop, view, isScalar, Tg.put, Tg.puts, List.set_cons_zero, List.set_cons_succ, List.getElem?_cons_zero, List.getElem?_cons_succ, List.map_cons, List.map_nil, List.cons_append, List.nil_append, List.replicate_succ, List.replicate_zero, Option.map_some, Option.map_none, Option.bind_some, if_true, if_false, Bool.not_true, Bool.not_false, Nat.sub_self, List.length_cons, List.length_nil, Bool.false_eq_true, reduceCtorEq, decide_true, decide_false, Int.reduceLT, Int.reduceLE, Int.reduceEq, Nat.reduceLeDiff, Nat.reduceAdd, eqOk_ii, eqv_ii, eqOk_ss, eqv_ss, ltOk_ii, lt_ii, l1, l2, l3, l4, Nat.zero_add, eq_self,  Bool.and_self, Bool.and_true, Bool.true_and, List.append_nil]
  have e3 := ev_all hc
  exact evSs_ret (evS_ite_t e1 ((evSs_nx (evS_ite_f e2 evSs_nil)).trans (evSs_ret (evS_ret e3))))
/-! ### the sums' law -/
theorem stOn_app (s : Int) (a b : List Int) : stOn s (a ++ b) = stOn (stOn s a) b := by unfold stOn; rw [List.foldl_append]
theorem stOn_lt {s : Int} (h0 : 0 ≤ s) (h : s < PR) : ∀ os : List Int, 0 ≤ stOn s os ∧ stOn s os < PR
  | [] => ⟨h0, h⟩
  | o :: os => stOn_lt (mod_lt _).1 (mod_lt _).2 os
theorem st7 (os : List Int) : 0 ≤ stOn 7 os ∧ stOn 7 os < PR := stOn_lt (by decide) (by decide) os
theorem stOn_lin (s t : Int) : ∀ os : List Int, M (stOn s os - stOn t os) ((s - t) * STEPc ^ os.length)
  | [] => by
    show M (s - t) _
    rw [List.length_nil, Int.pow_zero, Int.mul_one]
    exact M.refl _
  | o :: os => by
    refine M.trans (stOn_lin (nxt s o) (nxt t o) os) ?_
    have h : M (nxt s o - nxt t o) ((s - t) * STEPc) := by
      refine M.trans ((M.mod _).sub (M.mod _)) ?_
      have : s * STEPc + o + 1 - (t * STEPc + o + 1) = (s - t) * STEPc := by rw [Int.sub_mul]; omega
      rw [this]
      exact M.refl _
    refine M.trans (h.mul (M.refl _)) ?_
    rw [List.length_cons, Int.mul_assoc, ← Int.pow_succ']
    exact M.refl _
theorem pw_nat (n : Nat) : M (pw (n : Int)) (STEPc ^ n) := by
  unfold pw
  rw [Int.toNat_natCast]
  exact M.mod _
theorem jn_app (a b : List Int) : jn (stOn 7 a) (stOn 7 b) (b.length : Nat) = stOn 7 (a ++ b) := by
  have h7 := st7 (a ++ b)
  refine M.eq (M.trans (M.mod _) ?_) (mod_lt _).1 (mod_lt _).2 h7.1 h7.2
  rw [stOn_app]
  have h := stOn_lin (stOn 7 a) 7 b
  have h2 : M ((stOn 7 a - 7) * pw (b.length : Nat)) (stOn (stOn 7 a) b - stOn 7 b) := M.trans ((M.refl _).mul (pw_nat _)) h.symm
  have h3 := (M.refl (stOn 7 b)).add h2
  have e : stOn 7 b + (stOn (stOn 7 a) b - stOn 7 b) = stOn (stOn 7 a) b := by omega
  rw [e] at h3
  exact h3
theorem pw_add {m n : Int} (h0 : 0 ≤ m) (h1 : 0 ≤ n) : M (pw (m + n)) (pw m * pw n) := by
  unfold pw
  refine M.trans (M.mod _) (M.trans ?_ ((M.mod _).mul (M.mod _)).symm)
  rw [show (m + n).toNat = m.toNat + n.toNat by omega, Int.pow_add]
  exact M.refl _
theorem jn_lt (s t m : Int) : 0 ≤ jn s t m ∧ jn s t m < PR := mod_lt _
theorem jn_assoc (r s t : Int) {m n : Int} (h0 : 0 ≤ m) (h1 : 0 ≤ n) : jn (jn r s m) t n = jn r (jn s t n) (m + n) := by
  refine M.eq (M.trans (M.mod _) (M.trans ?_ (M.mod _).symm)) (jn_lt _ _ _).1 (jn_lt _ _ _).2 (jn_lt _ _ _).1 (jn_lt _ _ _).2
  have a : M (t + (jn r s m - 7) * pw n) (t + ((s + (r - 7) * pw m) - 7) * pw n) := (M.refl t).add (((M.mod _).sub (M.refl 7)).mul (M.refl _))
  have b : M (jn s t n + (r - 7) * pw (m + n)) ((t + (s - 7) * pw n) + (r - 7) * (pw m * pw n)) := (M.mod _).add ((M.refl _).mul (pw_add h0 h1))
  refine M.trans a (M.trans ?_ b.symm)
  have e : t + ((s + (r - 7) * pw m) - 7) * pw n = (t + (s - 7) * pw n) + (r - 7) * (pw m * pw n) := by
    have e1 : s + (r - 7) * pw m - 7 = (s - 7) + (r - 7) * pw m := by omega
    rw [e1, Int.add_mul, Int.mul_assoc]
    omega
  rw [e]
  exact M.refl _
/-- the step can be undone by the prime -/
abbrev INV : Int := 161059014526146032183744470082428375407
theorem inv_step : M (STEPc * INV) 1 := by unfold M STEPc INV PR; decide +kernel
theorem M.cancel {a b : Int} : ∀ n : Nat, M (a * STEPc ^ n) (b * STEPc ^ n) → M a b
  | 0, h => by rw [Int.pow_zero, Int.mul_one, Int.mul_one] at h; exact h
  | n + 1, h => by
    refine M.cancel n ?_
    have h2 := h.mul (M.refl INV)
    rw [Int.pow_succ, ← Int.mul_assoc, ← Int.mul_assoc, Int.mul_assoc _ STEPc INV, Int.mul_assoc _ STEPc INV] at h2
    have l := (M.refl (a * STEPc ^ n)).mul inv_step
    have r := (M.refl (b * STEPc ^ n)).mul inv_step
    rw [Int.mul_one] at l r
    exact l.symm.trans (h2.trans r)
/-- one octet otherwise: another sum -/
theorem stOn_ne {a b : List Int} {o q : Int} (h : stOn 7 (a ++ o :: b) = stOn 7 (a ++ q :: b)) (h0 : 0 ≤ o ∧ o ≤ 255) (h1 : 0 ≤ q ∧ q ≤ 255) : o = q := by
  rw [stOn_app, stOn_app] at h
  have h2 : stOn (nxt (stOn 7 a) o) b = stOn (nxt (stOn 7 a) q) b := h
  have h3 := stOn_lin (nxt (stOn 7 a) o) (nxt (stOn 7 a) q) b
  rw [h2] at h3
  have h4 : M (0 * STEPc ^ b.length) ((nxt (stOn 7 a) o - nxt (stOn 7 a) q) * STEPc ^ b.length) := by
    rw [Int.zero_mul]
    rw [Int.sub_self] at h3
    exact h3
  have h5 := M.cancel _ h4
  have h6 : M (nxt (stOn 7 a) o - nxt (stOn 7 a) q) (o - q) := by
    refine M.trans ((M.mod _).sub (M.mod _)) ?_
    have : stOn 7 a * STEPc + o + 1 - (stOn 7 a * STEPc + q + 1) = o - q := by omega
    rw [this]
    exact M.refl _
  have h7 := h5.trans h6
  unfold M PR at h7
  omega
/-! ### the law's own parts -/
theorem len_map (os : List Int) : (os.map D.int).length = os.length := List.length_map ..
theorem oct_take {os : List Int} (h : Oct os) (n : Nat) : Oct (os.take n) := ⟨fun o ho => h.1 o (List.mem_of_mem_take ho), by rw [List.length_take]; have := h.2; omega⟩
theorem oct_drop {os : List Int} (h : Oct os) (n : Nat) : Oct (os.drop n) := ⟨fun o ho => h.1 o (List.mem_of_mem_drop ho), by rw [List.length_drop]; have := h.2; omega⟩
theorem slc_lo (os : List Int) {c : Int} (h0 : 0 ≤ c) (h : c ≤ (os.length : Nat)) : slice (.tup (os.map .int)) none (some c) = some (.tup ((os.take c.toNat).map .int)) := by
  have e : (if c < 0 then (c + (os.length : Nat)).toNat else min c.toNat os.length) = c.toNat := by rw [if_neg (by omega)]; omega
  simp only [slice, cut, sIx, len_map, List.drop_zero, Nat.sub_zero, e, List.map_take]
theorem slc_hi (os : List Int) {c : Int} (h0 : 0 ≤ c) (h : c ≤ (os.length : Nat)) : slice (.tup (os.map .int)) (some c) none = some (.tup ((os.drop c.toNat).map .int)) := by
  have e : (if c < 0 then (c + (os.length : Nat)).toNat else min c.toNat os.length) = c.toNat := by rw [if_neg (by omega)]; omega
  have e2 : ((os.map D.int).drop c.toNat).take (os.length - c.toNat) = (os.map D.int).drop c.toNat := List.take_of_length_le (by rw [List.length_drop, len_map]; omega)
  simp only [slice, cut, sIx, len_map, e, e2, List.map_drop]
theorem plains_int : ∀ os : List Int, D.plains (os.map .int) = true
  | [] => rfl
  | o :: os => by rw [List.map_cons, D.plains, plains_int os]; rfl
theorem ne_nil (os : List Int) : cmpop .ne (.tup (os.map .int)) (.tup []) = some (!decide (os = [])) := by
  have h1 : eqOk (.tup (os.map .int)) (.tup []) = true := by
    unfold eqOk
    rw [D.plain, plains_int]
    have : min (D.tup (os.map .int)).depth (D.tup []).depth ≤ 60 := Nat.le_trans (Nat.min_le_right _ _) (by decide)
    simp only [decide_eq_true this, D.plain, D.plains, Bool.and_self, Bool.and_true]
  have h2 : D.eqv (.tup (os.map .int)) (.tup []) = decide (os = []) := by
    cases os with
    | nil => rfl
    | cons o os => rfl
  simp only [cmpop, h1, h2, if_true]
theorem ix3a (x y z : D) : idx (.lst [x, y, z]) (.int 0) = some x := by rfl
theorem ix3b (x y z : D) : idx (.lst [x, y, z]) (.int 1) = some y := by rfl
theorem ix3c (x y z : D) : idx (.lst [x, y, z]) (.int 2) = some z := by rfl
def stRight (n : Nat) : List St := f__law_right.body.drop n
theorem rolls {k : Nat} (hk : 1 ≤ k) (a b : Int) : ∃ r a' b', callP prog k "_law_roll" [.ref 0, .int 170141183460469231731687303715884105727] (Cup a b) = .ok (.int r) (Cup a' b') ∧ 0 ≤ r ∧ r < PR := r_law_roll hk (by decide) (div_log (by decide) (Int.le_refl _)) a b
theorem right_tail {k : Nat} (hk : 4 ≤ k) (m : Int) (os : List Int) (y3 y15 : Option D) (y4 y7 y8 y9 y10 y11 y12 : D) (a b : Int) : ∃ en' a' b', evSs (callP prog k) (stRight 8) [some (.ref 0), some (.int m), some (.tup (os.map .int)), y3, some (y4), none, none, some (y7), some (y8), some (y9), some (y10), some (y11), some (y12), none, none, y15, none] (Cup a b) = .ok (.ret (.bl true), en') (Cup a' b') := by
  obtain ⟨ys, S', e3, hl, rs, a3, b3, hy, ho, rfl⟩ := compLoop_inv (f := bodyC (callP prog k) [16] (.nm 16) none (.call "_law_hex" [(.call "_law_roll" [(.loc 0), (.cst (.int 170141183460469231731687303715884105727))])]) [some (.ref 0), some (.int m), some (.tup (os.map .int)), y3, some (y4), none, none, some (y7), some (y8), some (y9), some (y10), some (y11), some (y12), none, none, y15, none]) (w := [])
    (fun acc S => ∃ (rs : List Int) (a b : Int), acc = rs.map (fun r => .str (text r)) ∧ (∀ r ∈ rs, 0 ≤ r ∧ r < PR) ∧ S = Cup a b) (rangeD 0 3) [] (Cup a b) (fun x acc S _ hq => by
      obtain ⟨rs, a, b, rfl, ho, rfl⟩ := hq
      obtain ⟨c, a', b', f1, g1, g2⟩ := rolls (show 1 ≤ k by omega) a b
      refine ⟨.str (text c), Cup a' b', ?_, rfl, rs ++ [c], a', b', by rw [List.map_append]; rfl, fun q hq => ?_, rfl⟩
      · simp only [bodyC, wipeE, evSs, evS.eq_1, evS.eq_2, evS.eq_3, evS.eq_4, evS.eq_5, evS.eq_6, evS.eq_7, evS.eq_8, evS.eq_9, evS.eq_10, evS.eq_11, evE.eq_1, evE.eq_2, evE.eq_3, evE.eq_4, evE.eq_5, evE.eq_6, evE.eq_7, evE.eq_8, evE.eq_9, evE.eq_10, evE.eq_11, evE.eq_12, evE.eq_13, evE.eq_14, evE.eq_15, evE.eq_16, evE.eq_17, evE.eq_18, evE.eq_19, evEs, evO, evC, Re.bind, lift, builtin, binop, cmpop, view, isScalar, Tg.put, Tg.puts, List.set_cons_zero, List.set_cons_succ, List.getElem?_cons_zero, List.getElem?_cons_succ, List.map_cons, List.map_nil, List.cons_append, List.nil_append, List.replicate_succ, List.replicate_zero, Option.map_some, Option.map_none, Option.bind_some, if_true, if_false, Bool.not_true, Bool.not_false, Nat.sub_self, List.length_cons, List.length_nil, Bool.false_eq_true, reduceCtorEq, decide_true, decide_false, Int.reduceLT, Int.reduceLE, Int.reduceEq, Nat.reduceLeDiff, Nat.reduceAdd, eqOk_ii, eqv_ii, eqOk_ss, eqv_ss, ltOk_ii, lt_ii, l1, l2, l3, l4, Nat.zero_add, eq_self,  Bool.and_self, Bool.and_true, Bool.true_and, List.append_nil, f1, r_law_hex (show 1 ≤ k by omega)]
      · rcases List.mem_append.mp hq with hq | hq
        · exact ho q hq
        · rw [List.mem_singleton.mp hq]; exact ⟨g1, g2⟩) ⟨[], a, b, rfl, (fun o h => by simp at h), rfl⟩
  rw [List.nil_append] at e3 hy
  subst hy
  have hlen : rs.length = 3 := by rw [List.length_map, rng_len] at hl; exact hl
  match rs, hlen, ho, e3 with
  | [r0, r1, r2], _, ho, e3 =>
    obtain ⟨p0, q0⟩ := ho r0 (by simp)
    obtain ⟨p1, q1⟩ := ho r1 (by simp)
    obtain ⟨p2, q2⟩ := ho r2 (by simp)
    obtain ⟨far, a4, b4, e4, f0, f1⟩ := r_law_roll (show 1 ≤ k by omega) (m := 500000000000000000) (by omega) (div_log (by omega) (by decide)) a3 b3
    obtain ⟨near, a5, b5, e5, n0, n1⟩ := r_law_roll (show 1 ≤ k by omega) (m := 500000000000000000) (by omega) (div_log (by omega) (by decide)) a4 b4
    refine ⟨[some (.ref 0), some (.int m), some (.tup (os.map .int)), y3, some (y4), some (.lst [.str (text r0), .str (text r1), .str (text r2)]), some (.str (text (jn (jn r0 r1 far) r2 near))), some (y7), some (y8), some (y9), some (y10), some (y11), some (y12), some (.int far), some (.int near), y15, none], a5, b5, ?_⟩
    simp only [stRight, f__law_right, List.drop_succ_cons, List.drop_zero]
    refine (evSs_nx (S1 := Cup a3 b3) (en1 := [some (.ref 0), some (.int m), some (.tup (os.map .int)), y3, some (y4), some (.lst [.str (text r0), .str (text r1), .str (text r2)]), none, some (y7), some (y8), some (y9), some (y10), some (y11), some (y12), none, none, y15, none]) ?_).trans ?_
    · have hc := evE_comp (S := Cup a b) (S1 := Cup a b) (kk := .range) (es := [(.cst (.int 3))]) (ds := [.int 3]) (w := []) (en := [some (.ref 0), some (.int m), some (.tup (os.map .int)), y3, some (y4), none, none, some (y7), some (y8), some (y9), some (y10), some (y11), some (y12), none, none, y15, none]) (by simp only [evSs, evS.eq_1, evS.eq_2, evS.eq_3, evS.eq_4, evS.eq_5, evS.eq_6, evS.eq_7, evS.eq_8, evS.eq_9, evS.eq_10, evS.eq_11, evE.eq_1, evE.eq_2, evE.eq_3, evE.eq_4, evE.eq_5, evE.eq_6, evE.eq_7, evE.eq_8, evE.eq_9, evE.eq_10, evE.eq_11, evE.eq_12, evE.eq_13, evE.eq_14, evE.eq_15, evE.eq_16, evE.eq_17, evE.eq_18, evE.eq_19, evEs, evO, evC, Re.bind, lift, builtin, binop, cmpop, view, isScalar, Tg.put, Tg.puts, List.set_cons_zero, List.set_cons_succ, List.getElem?_cons_zero, List.getElem?_cons_succ, List.map_cons, List.map_nil, List.cons_append, List.nil_append, List.replicate_succ, List.replicate_zero, Option.map_some, Option.map_none, Option.bind_some, if_true, if_false, Bool.not_true, Bool.not_false, Nat.sub_self, List.length_cons, List.length_nil, Bool.false_eq_true, reduceCtorEq, decide_true, decide_false, Int.reduceLT, Int.reduceLE, Int.reduceEq, Nat.reduceLeDiff, Nat.reduceAdd, eqOk_ii, eqv_ii, eqOk_ss, eqv_ss, ltOk_ii, lt_ii, l1, l2, l3, l4, Nat.zero_add, eq_self,  Bool.and_self, Bool.and_true, Bool.true_and, List.append_nil]) (walk_rng (by omega) (by omega)) rfl (by rw [rng_len]; unfold line; omega) e3
      rw [evS, hc]
      simp only [evSs, evS.eq_1, evS.eq_2, evS.eq_3, evS.eq_4, evS.eq_5, evS.eq_6, evS.eq_7, evS.eq_8, evS.eq_9, evS.eq_10, evS.eq_11, evE.eq_1, evE.eq_2, evE.eq_3, evE.eq_4, evE.eq_5, evE.eq_6, evE.eq_7, evE.eq_8, evE.eq_9, evE.eq_10, evE.eq_11, evE.eq_12, evE.eq_13, evE.eq_14, evE.eq_15, evE.eq_16, evE.eq_17, evE.eq_18, evE.eq_19, evEs, evO, evC, Re.bind, lift, builtin, binop, cmpop, view, isScalar, Tg.put, Tg.puts, List.set_cons_zero, List.set_cons_succ, List.getElem?_cons_zero, List.getElem?_cons_succ, List.map_cons, List.map_nil, List.cons_append, List.nil_append, List.replicate_succ, List.replicate_zero, Option.map_some, Option.map_none, Option.bind_some, if_true, if_false, Bool.not_true, Bool.not_false, Nat.sub_self, List.length_cons, List.length_nil, Bool.false_eq_true, reduceCtorEq, decide_true, decide_false, Int.reduceLT, Int.reduceLE, Int.reduceEq, Nat.reduceLeDiff, Nat.reduceAdd, eqOk_ii, eqv_ii, eqOk_ss, eqv_ss, ltOk_ii, lt_ii, l1, l2, l3, l4, Nat.zero_add, eq_self,  Bool.and_self, Bool.and_true, Bool.true_and, List.append_nil]
    have h5 : mulOk 5 (10 ^ (17 : Int).toNat) = true := by decide +kernel
    have h6 : powOk 10 17 = true := by decide +kernel
    have h7 : (5 * 10 ^ (17 : Int).toNat : Int) = 500000000000000000 := by decide +kernel
    refine (evSs_nx (S1 := Cup a5 b5) (en1 := [some (.ref 0), some (.int m), some (.tup (os.map .int)), y3, some (y4), some (.lst [.str (text r0), .str (text r1), .str (text r2)]), none, some (y7), some (y8), some (y9), some (y10), some (y11), some (y12), some (.int far), some (.int near), y15, none]) ?_).trans ?_
    · simp only [evSs, evS.eq_1, evS.eq_2, evS.eq_3, evS.eq_4, evS.eq_5, evS.eq_6, evS.eq_7, evS.eq_8, evS.eq_9, evS.eq_10, evS.eq_11, evE.eq_1, evE.eq_2, evE.eq_3, evE.eq_4, evE.eq_5, evE.eq_6, evE.eq_7, evE.eq_8, evE.eq_9, evE.eq_10, evE.eq_11, evE.eq_12, evE.eq_13, evE.eq_14, evE.eq_15, evE.eq_16, evE.eq_17, evE.eq_18, evE.eq_19, evEs, evO, evC, Re.bind, lift, builtin, binop, cmpop, view, isScalar, Tg.put, Tg.puts, List.set_cons_zero, List.set_cons_succ, List.getElem?_cons_zero, List.getElem?_cons_succ, List.map_cons, List.map_nil, List.cons_append, List.nil_append, List.replicate_succ, List.replicate_zero, Option.map_some, Option.map_none, Option.bind_some, if_true, if_false, Bool.not_true, Bool.not_false, Nat.sub_self, List.length_cons, List.length_nil, Bool.false_eq_true, reduceCtorEq, decide_true, decide_false, Int.reduceLT, Int.reduceLE, Int.reduceEq, Nat.reduceLeDiff, Nat.reduceAdd, eqOk_ii, eqv_ii, eqOk_ss, eqv_ss, ltOk_ii, lt_ii, l1, l2, l3, l4, Nat.zero_add, eq_self,  Bool.and_self, Bool.and_true, Bool.true_and, List.append_nil, h5, h6, h7, e4, e5]
    have j1 := jn_lt r0 r1 far
    have j2 := jn_lt r1 r2 near
    refine (evSs_nx (S1 := Cup a5 b5) (en1 := [some (.ref 0), some (.int m), some (.tup (os.map .int)), y3, some (y4), some (.lst [.str (text r0), .str (text r1), .str (text r2)]), some (.str (text (jn (jn r0 r1 far) r2 near))), some (y7), some (y8), some (y9), some (y10), some (y11), some (y12), some (.int far), some (.int near), y15, none]) ?_).trans ?_
    · simp only [evSs, evS.eq_1, evS.eq_2, evS.eq_3, evS.eq_4, evS.eq_5, evS.eq_6, evS.eq_7, evS.eq_8, evS.eq_9, evS.eq_10, evS.eq_11, evE.eq_1, evE.eq_2, evE.eq_3, evE.eq_4, evE.eq_5, evE.eq_6, evE.eq_7, evE.eq_8, evE.eq_9, evE.eq_10, evE.eq_11, evE.eq_12, evE.eq_13, evE.eq_14, evE.eq_15, evE.eq_16, evE.eq_17, evE.eq_18, evE.eq_19, evEs, evO, evC, Re.bind, lift, builtin, binop, cmpop, view, isScalar, Tg.put, Tg.puts, List.set_cons_zero, List.set_cons_succ, List.getElem?_cons_zero, List.getElem?_cons_succ, List.map_cons, List.map_nil, List.cons_append, List.nil_append, List.replicate_succ, List.replicate_zero, Option.map_some, Option.map_none, Option.bind_some, if_true, if_false, Bool.not_true, Bool.not_false, Nat.sub_self, List.length_cons, List.length_nil, Bool.false_eq_true, reduceCtorEq, decide_true, decide_false, Int.reduceLT, Int.reduceLE, Int.reduceEq, Nat.reduceLeDiff, Nat.reduceAdd, eqOk_ii, eqv_ii, eqOk_ss, eqv_ss, ltOk_ii, lt_ii, l1, l2, l3, l4, Nat.zero_add, eq_self,  Bool.and_self, Bool.and_true, Bool.true_and, List.append_nil, ix3a, ix3b, ix3c, r_digest_joined hk p0 q0 p1 q1 f0 (show far ≤ 1000000000000000000 by omega), r_digest_joined hk j1.1 j1.2 p2 q2 n0 (show near ≤ 1000000000000000000 by omega)]
    refine evSs_ret (evS_ret ?_)
    simp only [evSs, evS.eq_1, evS.eq_2, evS.eq_3, evS.eq_4, evS.eq_5, evS.eq_6, evS.eq_7, evS.eq_8, evS.eq_9, evS.eq_10, evS.eq_11, evE.eq_1, evE.eq_2, evE.eq_3, evE.eq_4, evE.eq_5, evE.eq_6, evE.eq_7, evE.eq_8, evE.eq_9, evE.eq_10, evE.eq_11, evE.eq_12, evE.eq_13, evE.eq_14, evE.eq_15, evE.eq_16, evE.eq_17, evE.eq_18, evE.eq_19, evEs, evO, evC, Re.bind, lift, builtin, binop, cmpop, view, isScalar, Tg.put, Tg.puts, List.set_cons_zero, List.set_cons_succ, List.getElem?_cons_zero, List.getElem?_cons_succ, List.map_cons, List.map_nil, List.cons_append, List.nil_append, List.replicate_succ, List.replicate_zero, Option.map_some, Option.map_none, Option.bind_some, if_true, if_false, Bool.not_true, Bool.not_false, Nat.sub_self, List.length_cons, List.length_nil, Bool.false_eq_true, reduceCtorEq, decide_true, decide_false, Int.reduceLT, Int.reduceLE, Int.reduceEq, Nat.reduceLeDiff, Nat.reduceAdd, eqOk_ii, eqv_ii, eqOk_ss, eqv_ss, ltOk_ii, lt_ii, l1, l2, l3, l4, Nat.zero_add, eq_self,  Bool.and_self, Bool.and_true, Bool.true_and, List.append_nil, ix3a, ix3b, ix3c, r_digest_joined hk p1 q1 p2 q2 n0 (show near ≤ 1000000000000000000 by omega), r_digest_joined hk p0 q0 j2.1 j2.2 (show 0 ≤ far + near by omega) (show far + near ≤ 1000000000000000000 by omega), jn_assoc r0 r1 r2 f0 n0]

theorem take_next {os : List Int} {j : Nat} {o : Int} (h : os[j]? = some o) : os.take (j + 1) = os.take j ++ [o] := by
  rw [List.take_add_one, h]
  rfl
theorem r_law_right {k : Nat} (hk : 5 ≤ k) {m : Int} (h0 : 0 ≤ m) (hm : m ≤ 200) (a b : Int) : ∃ a' b', callP prog k "_law_right" [.ref 0, .int m] (Cup a b) = .ok (.bl true) (Cup a' b') := by
  obtain ⟨k, rfl, h1⟩ := kk hk
  obtain ⟨os, a1, b1, e1, ho⟩ := r_law_file (show 3 ≤ k by omega) h0 hm a b
  have hn := ho.2
  have h7 : mulOk 7 (pw (os.length : Nat)) = true := mul_smallL (by decide)
  have hpw := r_law_power (show 1 ≤ k by omega) (m := (os.length : Nat)) (by omega) (by omega) (Cup a1 b1)
  -- the sum
  obtain ⟨en3, S3, e3, l, s, rfl, rfl, ms⟩ := forLoop_inv (f := bodyF (callP prog k) (.nm 3) [.asg (.nm 8) (.bin .add (.loc 8) (.bin .mul (.bin .add (.idx (.loc 2) (.loc 3)) (.cst (.int 1))) (.call "_law_power" [(.bin .sub (.bin .sub (.loc 7) (.cst (.int 1))) (.loc 3))])))]) (w := [])
    (fun i en S => ∃ (l : Option D) (s : Int), en = [some (.ref 0), some (.int m), some (.tup (os.map .int)), l, none, none, none, some (.int (os.length : Nat)), some (.int s), none, none, none, none, none, none, none, none] ∧ S = Cup a1 b1 ∧ M s (stOn 7 (os.take i) * STEPc ^ (os.length - i))) (rangeD 0 (os.length : Nat)) 0 [some (.ref 0), some (.int m), some (.tup (os.map .int)), none, none, none, none, some (.int (os.length : Nat)), some (.int (7 * pw (os.length : Nat))), none, none, none, none, none, none, none, none] (Cup a1 b1) (fun j x en S hx hq => by
      obtain ⟨l, s, rfl, rfl, ms⟩ := hq
      rw [Nat.zero_add] at ms ⊢
      have hj : j < os.length := by
        have := (List.getElem?_eq_some_iff.mp hx).1
        rw [rng_len] at this
        omega
      have hx : x = .int (0 + (j : Nat)) := by
        have : (rangeD 0 (os.length : Nat))[j]? = some (.int (0 + (j : Nat))) := by simp [rangeD, hj]
        rw [this] at hx
        exact (Option.some.inj hx).symm
      subst hx
      obtain ⟨y, f1, _, f3⟩ := ix_at (xs := os.map .int) (r := 0 + (j : Nat)) (by omega) (by rw [len_map]; omega)
      have ej : (0 + (j : Nat) : Int).toNat = j := by omega
      rw [ej, List.getElem?_map] at f1
      obtain ⟨o, f4, rfl⟩ := Option.map_eq_some_iff.mp f1
      have hoo := ho.1 o (List.mem_of_getElem? f4)
      have hp := r_law_power (show 1 ≤ k by omega) (m := (os.length : Nat) - 1 - (0 + (j : Nat))) (by omega) (by omega) (Cup a1 b1)
      have hmo : mulOk (o + 1) (pw ((os.length : Nat) - 1 - (0 + (j : Nat)))) = true := mul_smallL (by omega)
      refine ⟨[some (.ref 0), some (.int m), some (.tup (os.map .int)), some (.int (0 + (j : Nat))), none, none, none, some (.int (os.length : Nat)), some (.int (s + (o + 1) * pw ((os.length : Nat) - 1 - (0 + (j : Nat))))), none, none, none, none, none, none, none, none], Cup a1 b1, ?_, rfl, some (.int (0 + (j : Nat))), s + (o + 1) * pw ((os.length : Nat) - 1 - (0 + (j : Nat))), rfl, rfl, ?_⟩
      · simp only [bodyF, evSs, evS.eq_1, evS.eq_2, evS.eq_3, evS.eq_4, evS.eq_5, evS.eq_6, evS.eq_7, evS.eq_8, evS.eq_9, evS.eq_10, evS.eq_11, evE.eq_1, evE.eq_2, evE.eq_3, evE.eq_4, evE.eq_5, evE.eq_6, evE.eq_7, evE.eq_8, evE.eq_9, evE.eq_10, evE.eq_11, evE.eq_12, evE.eq_13, evE.eq_14, evE.eq_15, evE.eq_16, evE.eq_17, evE.eq_18, evE.eq_19, evEs, evO, evC, Re.bind, lift, builtin, binop, cmpop, view, isScalar, Tg.put, Tg.puts, List.set_cons_zero, List.set_cons_succ, List.getElem?_cons_zero, List.getElem?_cons_succ, List.map_cons, List.map_nil, List.cons_append, List.nil_append, List.replicate_succ, List.replicate_zero, Option.map_some, Option.map_none, Option.bind_some, if_true, if_false, Bool.not_true, Bool.not_false, Nat.sub_self, List.length_cons, List.length_nil, Bool.false_eq_true, reduceCtorEq, decide_true, decide_false, Int.reduceLT, Int.reduceLE, Int.reduceEq, Nat.reduceLeDiff, Nat.reduceAdd, eqOk_ii, eqv_ii, eqOk_ss, eqv_ss, ltOk_ii, lt_ii, l1, l2, l3, l4, Nat.zero_add, eq_self,  Bool.and_self, Bool.and_true, Bool.true_and, List.append_nil, f3, hp, hmo]
      · rw [take_next f4, stOn_app]
        have e : ((os.length : Nat) : Int) - 1 - (0 + (j : Nat)) = ((os.length - (j + 1) : Nat) : Int) := by omega
        rw [e]
        have g1 := ms.add ((M.refl (o + 1)).mul (pw_nat (os.length - (j + 1))))
        refine g1.trans ?_
        have e2 : os.length - j = (os.length - (j + 1)) + 1 := by omega
        rw [e2, Int.pow_succ, ← Int.mul_assoc, Int.mul_right_comm, ← Int.add_mul]
        refine M.mul ?_ (M.refl _)
        have e5 : stOn 7 (os.take j) * STEPc + (o + 1) = stOn 7 (os.take j) * STEPc + o + 1 := by omega
        rw [e5]
        exact (M.mod _).symm) ⟨none, 7 * pw (os.length : Nat), rfl, rfl, by
          rw [List.take_zero, Nat.sub_zero]
          exact (M.refl 7).mul (pw_nat _)⟩
  rw [rng_len, show 0 + ((os.length : Nat) : Int).toNat = os.length by omega, List.take_length, Nat.sub_self, Int.pow_zero, Int.mul_one] at ms
  have st := st7 os
  have hs : s % 170141183460469231731687303715884105727 = stOn 7 os := M.eq (M.trans (M.mod s) ms) (mod_lt s).1 (mod_lt s).2 st.1 st.2
  obtain ⟨cut, a2, b2, e2, c0, c1⟩ := r_law_roll (show 1 ≤ k by omega) (m := (os.length : Nat) + 1) (by omega) (div_small (by omega) (by omega)) a1 b1
  have sl := slc_lo os c0 (show cut ≤ (os.length : Nat) by omega)
  have sh := slc_hi os c0 (show cut ≤ (os.length : Nat) by omega)
  have t1 := oct_take ho cut.toNat
  have t2 := oct_drop ho cut.toNat
  have s1 := st7 (os.take cut.toNat)
  have s2 := st7 (os.drop cut.toNat)
  have tl : ((os.drop cut.toNat).length : Int) ≤ 1000000000000000000 := by have := t2.2; omega
  have jj := jn_app (os.take cut.toNat) (os.drop cut.toNat)
  have on : stOn (stOn 7 (os.take cut.toNat)) (os.drop cut.toNat) = stOn 7 os := by rw [← stOn_app, List.take_append_drop]
  rw [List.take_append_drop] at jj
  have d1 := fun S => r_digest_of h1 ho S
  have d2 := fun S => r_digest_on h1 s1.1 s1.2 t2 S
  have d3 := fun S => r_digest_joined h1 s1.1 s1.2 s2.1 s2.2 (m := ((os.drop cut.toNat).length : Nat)) (by omega) tl S
  have d4 := fun S => r_is_digest (show 3 ≤ k by omega) st.1 st.2 S
  have head : ∀ r, evSs (callP prog k) (stRight 7) [some (.ref 0), some (.int m), some (.tup (os.map .int)), l, some (.tup [.str (text (stOn 7 os)), .str (text (stOn 7 os)), .str (text (stOn 7 os)), .bl true]), none, none, some (.int (os.length : Nat)), some (.int s), some (.str (text (stOn 7 os))), some (.int cut), some (.tup ((os.take cut.toNat).map .int)), some (.tup ((os.drop cut.toNat).map .int)), none, none, none, none] (Cup a2 b2) = r → evSs (callP prog k) f__law_right.body [some (.ref 0), some (.int m), none, none, none, none, none, none, none, none, none, none, none, none, none, none, none] (Cup a b) = r := fun r hr => by
    simp only [f__law_right]
    refine (evSs_nx (S1 := Cup a1 b1) (en1 := [some (.ref 0), some (.int m), some (.tup (os.map .int)), none, none, none, none, none, none, none, none, none, none, none, none, none, none]) ?_).trans ?_
    · simp only [evSs, evS.eq_1, evS.eq_2, evS.eq_3, evS.eq_4, evS.eq_5, evS.eq_6, evS.eq_7, evS.eq_8, evS.eq_9, evS.eq_10, evS.eq_11, evE.eq_1, evE.eq_2, evE.eq_3, evE.eq_4, evE.eq_5, evE.eq_6, evE.eq_7, evE.eq_8, evE.eq_9, evE.eq_10, evE.eq_11, evE.eq_12, evE.eq_13, evE.eq_14, evE.eq_15, evE.eq_16, evE.eq_17, evE.eq_18, evE.eq_19, evEs, evO, evC, Re.bind, lift, builtin, binop, cmpop, view, isScalar, Tg.put, Tg.puts, List.set_cons_zero, List.set_cons_succ, List.getElem?_cons_zero, List.getElem?_cons_succ, List.map_cons, List.map_nil, List.cons_append, List.nil_append, List.replicate_succ, List.replicate_zero, Option.map_some, Option.map_none, Option.bind_some, if_true, if_false, Bool.not_true, Bool.not_false, Nat.sub_self, List.length_cons, List.length_nil, Bool.false_eq_true, reduceCtorEq, decide_true, decide_false, Int.reduceLT, Int.reduceLE, Int.reduceEq, Nat.reduceLeDiff, Nat.reduceAdd, eqOk_ii, eqv_ii, eqOk_ss, eqv_ss, ltOk_ii, lt_ii, l1, l2, l3, l4, Nat.zero_add, eq_self,  Bool.and_self, Bool.and_true, Bool.true_and, List.append_nil, e1]
    refine (evSs_nx (S1 := Cup a1 b1) (en1 := [some (.ref 0), some (.int m), some (.tup (os.map .int)), none, none, none, none, some (.int (os.length : Nat)), some (.int (7 * pw (os.length : Nat))), none, none, none, none, none, none, none, none]) ?_).trans ?_
    · simp only [evSs, evS.eq_1, evS.eq_2, evS.eq_3, evS.eq_4, evS.eq_5, evS.eq_6, evS.eq_7, evS.eq_8, evS.eq_9, evS.eq_10, evS.eq_11, evE.eq_1, evE.eq_2, evE.eq_3, evE.eq_4, evE.eq_5, evE.eq_6, evE.eq_7, evE.eq_8, evE.eq_9, evE.eq_10, evE.eq_11, evE.eq_12, evE.eq_13, evE.eq_14, evE.eq_15, evE.eq_16, evE.eq_17, evE.eq_18, evE.eq_19, evEs, evO, evC, Re.bind, lift, builtin, binop, cmpop, view, isScalar, Tg.put, Tg.puts, List.set_cons_zero, List.set_cons_succ, List.getElem?_cons_zero, List.getElem?_cons_succ, List.map_cons, List.map_nil, List.cons_append, List.nil_append, List.replicate_succ, List.replicate_zero, Option.map_some, Option.map_none, Option.bind_some, if_true, if_false, Bool.not_true, Bool.not_false, Nat.sub_self, List.length_cons, List.length_nil, Bool.false_eq_true, reduceCtorEq, decide_true, decide_false, Int.reduceLT, Int.reduceLE, Int.reduceEq, Nat.reduceLeDiff, Nat.reduceAdd, eqOk_ii, eqv_ii, eqOk_ss, eqv_ss, ltOk_ii, lt_ii, l1, l2, l3, l4, Nat.zero_add, eq_self,  Bool.and_self, Bool.and_true, Bool.true_and, List.append_nil, len_map, hpw, h7]
    refine (evSs_nx (S1 := Cup a1 b1) (en1 := [some (.ref 0), some (.int m), some (.tup (os.map .int)), l, none, none, none, some (.int (os.length : Nat)), some (.int s), none, none, none, none, none, none, none, none]) ?_).trans ?_
    · exact evS_for (S1 := Cup a1 b1) (ds := [.int (os.length : Nat)]) (by simp only [evSs, evS.eq_1, evS.eq_2, evS.eq_3, evS.eq_4, evS.eq_5, evS.eq_6, evS.eq_7, evS.eq_8, evS.eq_9, evS.eq_10, evS.eq_11, evE.eq_1, evE.eq_2, evE.eq_3, evE.eq_4, evE.eq_5, evE.eq_6, evE.eq_7, evE.eq_8, evE.eq_9, evE.eq_10, evE.eq_11, evE.eq_12, evE.eq_13, evE.eq_14, evE.eq_15, evE.eq_16, evE.eq_17, evE.eq_18, evE.eq_19, evEs, evO, evC, Re.bind, lift, builtin, binop, cmpop, view, isScalar, Tg.put, Tg.puts, List.set_cons_zero, List.set_cons_succ, List.getElem?_cons_zero, List.getElem?_cons_succ, List.map_cons, List.map_nil, List.cons_append, List.nil_append, List.replicate_succ, List.replicate_zero, Option.map_some, Option.map_none, Option.bind_some, if_true, if_false, Bool.not_true, Bool.not_false, Nat.sub_self, List.length_cons, List.length_nil, Bool.false_eq_true, reduceCtorEq, decide_true, decide_false, Int.reduceLT, Int.reduceLE, Int.reduceEq, Nat.reduceLeDiff, Nat.reduceAdd, eqOk_ii, eqv_ii, eqOk_ss, eqv_ss, ltOk_ii, lt_ii, l1, l2, l3, l4, Nat.zero_add, eq_self,  Bool.and_self, Bool.and_true, Bool.true_and, List.append_nil]) (walk_rng (by omega) (by omega)) rfl e3
    refine (evSs_nx (S1 := Cup a2 b2) (en1 := [some (.ref 0), some (.int m), some (.tup (os.map .int)), l, none, none, none, some (.int (os.length : Nat)), some (.int s), some (.str (text (stOn 7 os))), some (.int cut), none, none, none, none, none, none]) ?_).trans ?_
    · simp only [evSs, evS.eq_1, evS.eq_2, evS.eq_3, evS.eq_4, evS.eq_5, evS.eq_6, evS.eq_7, evS.eq_8, evS.eq_9, evS.eq_10, evS.eq_11, evE.eq_1, evE.eq_2, evE.eq_3, evE.eq_4, evE.eq_5, evE.eq_6, evE.eq_7, evE.eq_8, evE.eq_9, evE.eq_10, evE.eq_11, evE.eq_12, evE.eq_13, evE.eq_14, evE.eq_15, evE.eq_16, evE.eq_17, evE.eq_18, evE.eq_19, evEs, evO, evC, Re.bind, lift, builtin, binop, cmpop, view, isScalar, Tg.put, Tg.puts, List.set_cons_zero, List.set_cons_succ, List.getElem?_cons_zero, List.getElem?_cons_succ, List.map_cons, List.map_nil, List.cons_append, List.nil_append, List.replicate_succ, List.replicate_zero, Option.map_some, Option.map_none, Option.bind_some, if_true, if_false, Bool.not_true, Bool.not_false, Nat.sub_self, List.length_cons, List.length_nil, Bool.false_eq_true, reduceCtorEq, decide_true, decide_false, Int.reduceLT, Int.reduceLE, Int.reduceEq, Nat.reduceLeDiff, Nat.reduceAdd, eqOk_ii, eqv_ii, eqOk_ss, eqv_ss, ltOk_ii, lt_ii, l1, l2, l3, l4, Nat.zero_add, eq_self,  Bool.and_self, Bool.and_true, Bool.true_and, List.append_nil, hs, r_law_hex (show 1 ≤ k by omega), e2]
    refine (evSs_nx (S1 := Cup a2 b2) (en1 := [some (.ref 0), some (.int m), some (.tup (os.map .int)), l, none, none, none, some (.int (os.length : Nat)), some (.int s), some (.str (text (stOn 7 os))), some (.int cut), some (.tup ((os.take cut.toNat).map .int)), some (.tup ((os.drop cut.toNat).map .int)), none, none, none, none]) ?_).trans ?_
    · simp only [evSs, evS.eq_1, evS.eq_2, evS.eq_3, evS.eq_4, evS.eq_5, evS.eq_6, evS.eq_7, evS.eq_8, evS.eq_9, evS.eq_10, evS.eq_11, evE.eq_1, evE.eq_2, evE.eq_3, evE.eq_4, evE.eq_5, evE.eq_6, evE.eq_7, evE.eq_8, evE.eq_9, evE.eq_10, evE.eq_11, evE.eq_12, evE.eq_13, evE.eq_14, evE.eq_15, evE.eq_16, evE.eq_17, evE.eq_18, evE.eq_19, evEs, evO, evC, Re.bind, lift, builtin, binop, cmpop, view, isScalar, Tg.put, Tg.puts, List.set_cons_zero, List.set_cons_succ, List.getElem?_cons_zero, List.getElem?_cons_succ, List.map_cons, List.map_nil, List.cons_append, List.nil_append, List.replicate_succ, List.replicate_zero, Option.map_some, Option.map_none, Option.bind_some, if_true, if_false, Bool.not_true, Bool.not_false, Nat.sub_self, List.length_cons, List.length_nil, Bool.false_eq_true, reduceCtorEq, decide_true, decide_false, Int.reduceLT, Int.reduceLE, Int.reduceEq, Nat.reduceLeDiff, Nat.reduceAdd, eqOk_ii, eqv_ii, eqOk_ss, eqv_ss, ltOk_ii, lt_ii, l1, l2, l3, l4, Nat.zero_add, eq_self,  Bool.and_self, Bool.and_true, Bool.true_and, List.append_nil, sl, sh]
    refine (evSs_nx (S1 := Cup a2 b2) (en1 := [some (.ref 0), some (.int m), some (.tup (os.map .int)), l, some (.tup [.str (text (stOn 7 os)), .str (text (stOn 7 os)), .str (text (stOn 7 os)), .bl true]), none, none, some (.int (os.length : Nat)), some (.int s), some (.str (text (stOn 7 os))), some (.int cut), some (.tup ((os.take cut.toNat).map .int)), some (.tup ((os.drop cut.toNat).map .int)), none, none, none, none]) ?_).trans ?_
    · simp only [evSs, evS.eq_1, evS.eq_2, evS.eq_3, evS.eq_4, evS.eq_5, evS.eq_6, evS.eq_7, evS.eq_8, evS.eq_9, evS.eq_10, evS.eq_11, evE.eq_1, evE.eq_2, evE.eq_3, evE.eq_4, evE.eq_5, evE.eq_6, evE.eq_7, evE.eq_8, evE.eq_9, evE.eq_10, evE.eq_11, evE.eq_12, evE.eq_13, evE.eq_14, evE.eq_15, evE.eq_16, evE.eq_17, evE.eq_18, evE.eq_19, evEs, evO, evC, Re.bind, lift, builtin, binop, cmpop, view, isScalar, Tg.put, Tg.puts, List.set_cons_zero, List.set_cons_succ, List.getElem?_cons_zero, List.getElem?_cons_succ, List.map_cons, List.map_nil, List.cons_append, List.nil_append, List.replicate_succ, List.replicate_zero, Option.map_some, Option.map_none, Option.bind_some, if_true, if_false, Bool.not_true, Bool.not_false, Nat.sub_self, List.length_cons, List.length_nil, Bool.false_eq_true, reduceCtorEq, decide_true, decide_false, Int.reduceLT, Int.reduceLE, Int.reduceEq, Nat.reduceLeDiff, Nat.reduceAdd, eqOk_ii, eqv_ii, eqOk_ss, eqv_ss, ltOk_ii, lt_ii, l1, l2, l3, l4, Nat.zero_add, eq_self,  Bool.and_self, Bool.and_true, Bool.true_and, List.append_nil, d1, r_law_digest (show 2 ≤ k by omega), d2, len_map, d3, jj, on, d4]
    refine (evSs_nx (S1 := Cup a2 b2) (en1 := [some (.ref 0), some (.int m), some (.tup (os.map .int)), l, some (.tup [.str (text (stOn 7 os)), .str (text (stOn 7 os)), .str (text (stOn 7 os)), .bl true]), none, none, some (.int (os.length : Nat)), some (.int s), some (.str (text (stOn 7 os))), some (.int cut), some (.tup ((os.take cut.toNat).map .int)), some (.tup ((os.drop cut.toNat).map .int)), none, none, none, none]) ?_).trans ?_
    · have sm := r_same_tup (show 2 ≤ k by omega) (xs := [.str (text (stOn 7 os)), .str (text (stOn 7 os)), .str (text (stOn 7 os)), .bl true]) (by simp) (fun x hx => by
        simp only [List.mem_cons, List.not_mem_nil, or_false] at hx
        rcases hx with rfl | rfl | rfl | rfl <;> rfl) (Cup a2 b2)
      simp only [evSs, evS.eq_1, evS.eq_2, evS.eq_3, evS.eq_4, evS.eq_5, evS.eq_6, evS.eq_7, evS.eq_8, evS.eq_9, evS.eq_10, evS.eq_11, evE.eq_1, evE.eq_2, evE.eq_3, evE.eq_4, evE.eq_5, evE.eq_6, evE.eq_7, evE.eq_8, evE.eq_9, evE.eq_10, evE.eq_11, evE.eq_12, evE.eq_13, evE.eq_14, evE.eq_15, evE.eq_16, evE.eq_17, evE.eq_18, evE.eq_19, evEs, evO, evC, Re.bind, lift, builtin, binop, cmpop, view, isScalar, Tg.put, Tg.puts, List.set_cons_zero, List.set_cons_succ, List.getElem?_cons_zero, List.getElem?_cons_succ, List.map_cons, List.map_nil, List.cons_append, List.nil_append, List.replicate_succ, List.replicate_zero, Option.map_some, Option.map_none, Option.bind_some, if_true, if_false, Bool.not_true, Bool.not_false, Nat.sub_self, List.length_cons, List.length_nil, Bool.false_eq_true, reduceCtorEq, decide_true, decide_false, Int.reduceLT, Int.reduceLE, Int.reduceEq, Nat.reduceLeDiff, Nat.reduceAdd, eqOk_ii, eqv_ii, eqOk_ss, eqv_ss, ltOk_ii, lt_ii, l1, l2, l3, l4, Nat.zero_add, eq_self,  Bool.and_self, Bool.and_true, Bool.true_and, List.append_nil, sm, r_law_digest (show 2 ≤ k by omega)]
    exact hr
  by_cases hnil : os = []
  · obtain ⟨en', a3, b3, e⟩ := right_tail h1 m os l none (.tup [.str (text (stOn 7 os)), .str (text (stOn 7 os)), .str (text (stOn 7 os)), .bl true]) (.int (os.length : Nat)) (.int s) (.str (text (stOn 7 os))) (.int cut) (.tup ((os.take cut.toNat).map .int)) (.tup ((os.drop cut.toNat).map .int)) a2 b2
    refine ⟨a3, b3, call_ret (fn := f__law_right) (en' := en') rfl rfl (head _ ?_)⟩
    have hc : evE (callP prog k) (.cmp .ne (.loc 2) (.tup [])) [some (.ref 0), some (.int m), some (.tup (os.map .int)), l, some (.tup [.str (text (stOn 7 os)), .str (text (stOn 7 os)), .str (text (stOn 7 os)), .bl true]), none, none, some (.int (os.length : Nat)), some (.int s), some (.str (text (stOn 7 os))), some (.int cut), some (.tup ((os.take cut.toNat).map .int)), some (.tup ((os.drop cut.toNat).map .int)), none, none, none, none] (Cup a2 b2) = .ok (.bl (!decide (os = []))) (Cup a2 b2) := by simp only [evE.eq_2, evE.eq_6, evE.eq_11, evEs, Re.bind, List.getElem?_cons_zero, List.getElem?_cons_succ, List.length_nil, Nat.zero_le, if_true, view, ne_nil, Option.map_some, lift]
    rw [decide_eq_true hnil] at hc
    exact (evSs_nx (S1 := Cup a2 b2) (en1 := [some (.ref 0), some (.int m), some (.tup (os.map .int)), l, some (.tup [.str (text (stOn 7 os)), .str (text (stOn 7 os)), .str (text (stOn 7 os)), .bl true]), none, none, some (.int (os.length : Nat)), some (.int s), some (.str (text (stOn 7 os))), some (.int cut), some (.tup ((os.take cut.toNat).map .int)), some (.tup ((os.drop cut.toNat).map .int)), none, none, none, none]) (evS_ite_f hc evSs_nil)).trans e
  · have hpos : 0 < os.length := List.length_pos_iff.mpr hnil
    obtain ⟨at_, a3, b3, e4, p0, p1⟩ := r_law_roll (show 1 ≤ k by omega) (m := (os.length : Nat)) (by omega) (div_small (by omega) (by omega)) a2 b2
    obtain ⟨more, a4, b4, e5, q0, q1⟩ := r_law_roll (show 1 ≤ k by omega) (m := 255) (by omega) (by decide +kernel) a3 b3
    obtain ⟨y, f1, _, f3⟩ := ix_at (xs := os.map .int) p0 (by rw [len_map]; omega)
    rw [List.getElem?_map] at f1
    obtain ⟨o, f4, rfl⟩ := Option.map_eq_some_iff.mp f1
    have hoo := ho.1 o (List.mem_of_getElem? f4)
    have u1 := slc_lo os p0 (show at_ ≤ (os.length : Nat) by omega)
    have u2 := slc_hi os (c := at_ + 1) (by omega) (show at_ + 1 ≤ (os.length : Nat) by omega)
    have en : (at_ + 1).toNat = at_.toNat + 1 := by omega
    rw [en] at u2
    have split : os = os.take at_.toNat ++ o :: os.drop (at_.toNat + 1) := by
      obtain ⟨hlt, e⟩ := List.getElem?_eq_some_iff.mp f4
      have := List.drop_eq_getElem_cons hlt
      rw [e] at this
      rw [← this, List.take_append_drop]
    generalize hq : (o + (1 + more)) % 256 = q
    have hqq : 0 ≤ q ∧ q ≤ 255 := by omega
    have hne : o ≠ q := by omega
    have oc : Oct (os.take at_.toNat ++ q :: os.drop (at_.toNat + 1)) := ⟨fun z hz => by
      rcases List.mem_append.mp hz with hz | hz
      · exact (oct_take ho _).1 z hz
      · rcases List.mem_cons.mp hz with rfl | hz
        · exact hqq
        · exact (oct_drop ho _).1 z hz, by
      rw [List.length_append, List.length_cons, List.length_take, List.length_drop]; omega⟩
    have dd := fun S => r_digest_of h1 oc S
    have sn := st7 (os.take at_.toNat ++ q :: os.drop (at_.toNat + 1))
    have tn : text (stOn 7 (os.take at_.toNat ++ q :: os.drop (at_.toNat + 1))) ≠ text (stOn 7 os) := fun e => by
      have := text_inj sn.1 sn.2 st.1 st.2 e
      have e2 : stOn 7 (os.take at_.toNat ++ o :: os.drop (at_.toNat + 1)) = stOn 7 (os.take at_.toNat ++ q :: os.drop (at_.toNat + 1)) := by rw [← split, this]
      exact hne (stOn_ne e2 hoo hqq)
    have m1 : ((os.take at_.toNat).map D.int).length + 1 ≤ line := by rw [len_map, List.length_take]; unfold line; omega
    have m2 : ((os.take at_.toNat).map D.int ++ [D.int q]).length + ((os.drop (at_.toNat + 1)).map D.int).length ≤ line := by rw [List.length_append, len_map, len_map, List.length_take, List.length_drop]; unfold line; simp only [List.length_cons, List.length_nil]; omega
    have mm : (os.take at_.toNat).map D.int ++ [D.int q] ++ (os.drop (at_.toNat + 1)).map D.int = (os.take at_.toNat ++ q :: os.drop (at_.toNat + 1)).map D.int := by simp
    obtain ⟨en', a5, b5, e⟩ := right_tail h1 m os (some (.int at_)) (some (.int (1 + more))) (.tup [.str (text (stOn 7 os)), .str (text (stOn 7 os)), .str (text (stOn 7 os)), .bl true]) (.int (os.length : Nat)) (.int s) (.str (text (stOn 7 os))) (.int cut) (.tup ((os.take cut.toNat).map .int)) (.tup ((os.drop cut.toNat).map .int)) a4 b4
    refine ⟨a5, b5, call_ret (fn := f__law_right) (en' := en') rfl rfl (head _ ?_)⟩
    have hc : evE (callP prog k) (.cmp .ne (.loc 2) (.tup [])) [some (.ref 0), some (.int m), some (.tup (os.map .int)), l, some (.tup [.str (text (stOn 7 os)), .str (text (stOn 7 os)), .str (text (stOn 7 os)), .bl true]), none, none, some (.int (os.length : Nat)), some (.int s), some (.str (text (stOn 7 os))), some (.int cut), some (.tup ((os.take cut.toNat).map .int)), some (.tup ((os.drop cut.toNat).map .int)), none, none, none, none] (Cup a2 b2) = .ok (.bl (!decide (os = []))) (Cup a2 b2) := by simp only [evE.eq_2, evE.eq_6, evE.eq_11, evEs, Re.bind, List.getElem?_cons_zero, List.getElem?_cons_succ, List.length_nil, Nat.zero_le, if_true, view, ne_nil, Option.map_some, lift]
    rw [decide_eq_false hnil] at hc
    refine (evSs_nx (S1 := Cup a4 b4) (en1 := [some (.ref 0), some (.int m), some (.tup (os.map .int)), some (.int at_), some (.tup [.str (text (stOn 7 os)), .str (text (stOn 7 os)), .str (text (stOn 7 os)), .bl true]), none, none, some (.int (os.length : Nat)), some (.int s), some (.str (text (stOn 7 os))), some (.int cut), some (.tup ((os.take cut.toNat).map .int)), some (.tup ((os.drop cut.toNat).map .int)), none, none, some (.int (1 + more)), none]) (evS_ite_t hc ?_)).trans e
    refine (evSs_nx (S1 := Cup a4 b4) (en1 := [some (.ref 0), some (.int m), some (.tup (os.map .int)), some (.int at_), some (.tup [.str (text (stOn 7 os)), .str (text (stOn 7 os)), .str (text (stOn 7 os)), .bl true]), none, none, some (.int (os.length : Nat)), some (.int s), some (.str (text (stOn 7 os))), some (.int cut), some (.tup ((os.take cut.toNat).map .int)), some (.tup ((os.drop cut.toNat).map .int)), none, none, some (.int (1 + more)), none]) ?_).trans ?_
    · simp only [evSs, evS.eq_1, evS.eq_2, evS.eq_3, evS.eq_4, evS.eq_5, evS.eq_6, evS.eq_7, evS.eq_8, evS.eq_9, evS.eq_10, evS.eq_11, evE.eq_1, evE.eq_2, evE.eq_3, evE.eq_4, evE.eq_5, evE.eq_6, evE.eq_7, evE.eq_8, evE.eq_9, evE.eq_10, evE.eq_11, evE.eq_12, evE.eq_13, evE.eq_14, evE.eq_15, evE.eq_16, evE.eq_17, evE.eq_18, evE.eq_19, evEs, evO, evC, Re.bind, lift, builtin, binop, cmpop, view, isScalar, Tg.put, Tg.puts, List.set_cons_zero, List.set_cons_succ, List.getElem?_cons_zero, List.getElem?_cons_succ, List.map_cons, List.map_nil, List.cons_append, List.nil_append, List.replicate_succ, List.replicate_zero, Option.map_some, Option.map_none, Option.bind_some, if_true, if_false, Bool.not_true, Bool.not_false, Nat.sub_self, List.length_cons, List.length_nil, Bool.false_eq_true, reduceCtorEq, decide_true, decide_false, Int.reduceLT, Int.reduceLE, Int.reduceEq, Nat.reduceLeDiff, Nat.reduceAdd, eqOk_ii, eqv_ii, eqOk_ss, eqv_ss, ltOk_ii, lt_ii, l1, l2, l3, l4, Nat.zero_add, eq_self,  Bool.and_self, Bool.and_true, Bool.true_and, List.append_nil, e4, e5]
    refine (evSs_nx (S1 := Cup a4 b4) (en1 := [some (.ref 0), some (.int m), some (.tup (os.map .int)), some (.int at_), some (.tup [.str (text (stOn 7 os)), .str (text (stOn 7 os)), .str (text (stOn 7 os)), .bl true]), none, none, some (.int (os.length : Nat)), some (.int s), some (.str (text (stOn 7 os))), some (.int cut), some (.tup ((os.take cut.toNat).map .int)), some (.tup ((os.drop cut.toNat).map .int)), none, none, some (.int (1 + more)), none]) (evS_ite_f ?_ evSs_nil)).trans evSs_nil
    simp only [evSs, evS.eq_1, evS.eq_2, evS.eq_3, evS.eq_4, evS.eq_5, evS.eq_6, evS.eq_7, evS.eq_8, evS.eq_9, evS.eq_10, evS.eq_11, evE.eq_1, evE.eq_2, evE.eq_3, evE.eq_4, evE.eq_5, evE.eq_6, evE.eq_7, evE.eq_8, evE.eq_9, evE.eq_10, evE.eq_11, evE.eq_12, evE.eq_13, evE.eq_14, evE.eq_15, evE.eq_16, evE.eq_17, evE.eq_18, evE.eq_19, evEs, evO, evC, Re.bind, lift, builtin, binop, cmpop, view, isScalar, Tg.put, Tg.puts, List.set_cons_zero, List.set_cons_succ, List.getElem?_cons_zero, List.getElem?_cons_succ, List.map_cons, List.map_nil, List.cons_append, List.nil_append, List.replicate_succ, List.replicate_zero, Option.map_some, Option.map_none, Option.bind_some, if_true, if_false, Bool.not_true, Bool.not_false, Nat.sub_self, List.length_cons, List.length_nil, Bool.false_eq_true, reduceCtorEq, decide_true, decide_false, Int.reduceLT, Int.reduceLE, Int.reduceEq, Nat.reduceLeDiff, Nat.reduceAdd, eqOk_ii, eqv_ii, eqOk_ss, eqv_ss, ltOk_ii, lt_ii, l1, l2, l3, l4, Nat.zero_add, eq_self,  Bool.and_self, Bool.and_true, Bool.true_and, List.append_nil, u1, u2, f3, hq, m1, m2, mm, dd, decide_eq_false tn]

def zs (c : Str) (n : Nat) : Str := ⟨((List.replicate n c.cps.toList).flatten).toArray⟩
def odds : List D := [.non, .str "", .str (zs "0" 31), .str (zs "0" 33), .str ("A" ++ zs "0" 31), .str ("g" ++ zs "0" 31), .str ("7" ++ zs "f" 31), .str (zs "f" 32), .int 5, .tup (List.replicate 32 (.str "0")), .str (" " ++ zs "0" 31), .lst [.str (zs "0" 32)]]
theorem r_law_list (a b : Int) (x0 x2 : Option D) : evE (callP prog 59) (.lst [(.cst .non), (.cst (.str "")), (.bin .mul (.cst (.str "0")) (.cst (.int 31))), (.bin .mul (.cst (.str "0")) (.cst (.int 33))), (.bin .add (.cst (.str "A")) (.bin .mul (.cst (.str "0")) (.cst (.int 31)))), (.bin .add (.cst (.str "g")) (.bin .mul (.cst (.str "0")) (.cst (.int 31)))), (.bin .add (.cst (.str "7")) (.bin .mul (.cst (.str "f")) (.cst (.int 31)))), (.bin .mul (.cst (.str "f")) (.cst (.int 32))), (.cst (.int 5)), (.bin .mul (.tup [(.cst (.str "0"))]) (.cst (.int 32))), (.bin .add (.cst (.str " ")) (.bin .mul (.cst (.str "0")) (.cst (.int 31)))), (.lst [(.bin .mul (.cst (.str "0")) (.cst (.int 32)))])]) [x0, some (.ref 0), x2, none, none, none, none, none] (Cup a b) =
    .ok (.lst odds) (Cup a b) := by kernel_rfl
theorem r_odds (a b : Int) (x0 x2 : Option D) : evE (callP prog 59) (.cmp .ne (.comp [7] (.nm 7) .ex [(.loc 3)] (some (.cmp .isnot (.call "is_digest" [(.loc 7)]) (.cst (.bl false)))) (.loc 7)) (.lst [])) [x0, some (.ref 0), x2, some (.lst odds), none, none, none, none] (Cup a b) = .ok (.bl false) (Cup a b) := by kernel_rfl
theorem r_good (a b : Int) : callP prog 59 "is_digest" [.str "7ffffffffffffffffffffffffffffffe"] (Cup a b) = .ok (.bl true) (Cup a b) := by kernel_rfl

theorem pw0 : pw 0 = 1 := by decide +kernel
theorem jn_zero {s : Int} (h0 : 0 ≤ s) (h : s < PR) : jn s 7 0 = s := by
  unfold jn
  rw [pw0, Int.mul_one]
  have e : 7 + (s - 7) = s := by omega
  rw [e]
  exact Int.emod_eq_of_lt h0 h
theorem jn_seven {s : Int} (h0 : 0 ≤ s) (h : s < PR) (m : Int) : jn 7 s m = s := by
  unfold jn
  rw [show (7 : Int) - 7 = 0 by omega, Int.zero_mul, Int.add_zero]
  exact Int.emod_eq_of_lt h0 h
theorem one_oct {o : Int} (h0 : 0 ≤ o) (h : o < 256) : stOn 7 [o] = 7 * 2862933555777941757 + o + 1 := by
  show (7 * 2862933555777941757 + o + 1) % 170141183460469231731687303715884105727 = _
  exact Int.emod_eq_of_lt (by omega) (by omega)
theorem r_law (ns : List Int) (h : ns.length ≤ 63) : ∃ S', callP prog 60 "law" [.lst (ns.map D.int)] [] = .ok (.bl true) S' := by
  obtain ⟨a0, b0, e0⟩ := r_law_cup (show 1 ≤ 59 by omega) ns h
  obtain ⟨en1, S1, e1, l, a1, b1, rfl, rfl⟩ := forLoop_inv (f := bodyF (callP prog 59) (.nm 2) [.ite (.not_ (.call "_law_right" [(.loc 1), (.loc 2)])) [.ret (.cst (.bl false))] []]) (w := [])
    (fun _ en S => ∃ (l : Option D) (a b : Int), en = [some (.lst (ns.map .int)), some (.ref 0), l, none, none, none, none, none] ∧ S = Cup a b) [.int 0, .int 5, .int 60, .int 200] 0 [some (.lst (ns.map .int)), some (.ref 0), none, none, none, none, none, none] (Cup a0 b0) (fun j x en S hx hq => by
      obtain ⟨l, a, b, rfl, rfl⟩ := hq
      have hm : x ∈ [D.int 0, .int 5, .int 60, .int 200] := List.mem_of_getElem? hx
      have hx : ∃ m : Int, x = .int m ∧ 0 ≤ m ∧ m ≤ 200 := by
        simp only [List.mem_cons, List.not_mem_nil, or_false] at hm
        rcases hm with rfl | rfl | rfl | rfl
        · exact ⟨0, rfl, by omega, by omega⟩
        · exact ⟨5, rfl, by omega, by omega⟩
        · exact ⟨60, rfl, by omega, by omega⟩
        · exact ⟨200, rfl, by omega, by omega⟩
      obtain ⟨m, rfl, m0, m1⟩ := hx
      obtain ⟨a', b', e⟩ := r_law_right (show 5 ≤ 59 by omega) m0 m1 a b
      refine ⟨[some (.lst (ns.map .int)), some (.ref 0), some (.int m), none, none, none, none, none], Cup a' b', ?_, rfl, some (.int m), a', b', rfl, rfl⟩
      simp only [bodyF, evSs, evS.eq_1, evS.eq_2, evS.eq_3, evS.eq_4, evS.eq_5, evS.eq_6, evS.eq_7, evS.eq_8, evS.eq_9, evS.eq_10, evS.eq_11, evE.eq_1, evE.eq_2, evE.eq_3, evE.eq_4, evE.eq_5, evE.eq_6, evE.eq_7, evE.eq_8, evE.eq_9, evE.eq_10, evE.eq_11, evE.eq_12, evE.eq_13, evE.eq_14, evE.eq_15, evE.eq_16, evE.eq_17, evE.eq_18, evE.eq_19, evEs, evO, evC, Re.bind, lift, builtin, binop, cmpop, view, isScalar, Tg.put, Tg.puts, List.set_cons_zero, List.set_cons_succ, List.getElem?_cons_zero, List.getElem?_cons_succ, List.map_cons, List.map_nil, List.cons_append, List.nil_append, List.replicate_succ, List.replicate_zero, Option.map_some, Option.map_none, Option.bind_some, if_true, if_false, Bool.not_true, Bool.not_false, Nat.sub_self, List.length_cons, List.length_nil, Bool.false_eq_true, reduceCtorEq, decide_true, decide_false, Int.reduceLT, Int.reduceLE, Int.reduceEq, Nat.reduceLeDiff, Nat.reduceAdd, eqOk_ii, eqv_ii, eqOk_ss, eqv_ss, ltOk_ii, lt_ii, l1, l2, l3, l4, Nat.zero_add, eq_self,  Bool.and_self, Bool.and_true, Bool.true_and, List.append_nil, e]) ⟨none, a0, b0, rfl, rfl⟩
  obtain ⟨s, a2, b2, e2, s0, s1⟩ := rolls (show 1 ≤ 59 by omega) a1 b1
  obtain ⟨o, a3, b3, e3, o0, o1⟩ := r_law_roll (show 1 ≤ 59 by omega) (m := 256) (by omega) (by decide +kernel) a2 b2
  have oc : Oct [o] := ⟨fun z hz => by rw [List.mem_singleton.mp hz]; omega, by simp⟩
  have on : Oct [] := ⟨fun z hz => by simp at hz, by simp⟩
  have d1 := r_digest_of (show 4 ≤ 59 by omega) on (Cup a3 b3)
  have d2 := r_digest_on (show 4 ≤ 59 by omega) s0 s1 on (Cup a3 b3)
  have d3 := r_digest_joined (show 4 ≤ 59 by omega) s0 s1 (t := 7) (m := 0) (by omega) (by decide) (by omega) (by omega) (Cup a3 b3)
  have d4 := r_digest_joined (show 4 ≤ 59 by omega) (s := 7) (m := 9) (by omega) (by decide) s0 s1 (by omega) (by omega) (Cup a3 b3)
  have d5 := r_digest_of (show 4 ≤ 59 by omega) oc (Cup a3 b3)
  rw [jn_zero s0 s1] at d3
  rw [jn_seven s0 s1] at d4
  rw [one_oct o0 o1] at d5
  simp only [List.map_nil, List.map_cons, stOn, List.foldl_nil] at d1 d2 d5
  have c1 : evE (callP prog 59) (.bin .add (.bin .add (.cst (.str "7")) (.bin .mul (.cst (.str "f")) (.cst (.int 30)))) (.cst (.str "e"))) [some (.lst (ns.map .int)), some (.ref 0), l, some (.lst odds), none, some (.str (text s)), some (.int o), none] (Cup a3 b3) = .ok (.str "7ffffffffffffffffffffffffffffffe") (Cup a3 b3) := by kernel_rfl
  have c2 : evE (callP prog 59) (.bin .add (.bin .mul (.cst (.str "0")) (.cst (.int 31))) (.cst (.str "7"))) [some (.lst (ns.map .int)), some (.ref 0), l, some (.lst odds), some (.tup [.str (text 7), .str (text s), .str (text s), .str (text s), .str (text (7 * 2862933555777941757 + o + 1)), .bl true]), some (.str (text s)), some (.int o), none] (Cup a3 b3) = .ok (.str (text 7)) (Cup a3 b3) := by kernel_rfl
  have hm : mulOk 7 2862933555777941757 = true := by decide +kernel
  have l6 : 6 ≤ line := by decide
  have sm := r_same_tup (show 2 ≤ 59 by omega) (xs := [.str (text 7), .str (text s), .str (text s), .str (text s), .str (text (7 * 2862933555777941757 + o + 1)), .bl true]) (by simp) (fun x hx => by
    simp only [List.mem_cons, List.not_mem_nil, or_false] at hx
    rcases hx with rfl | rfl | rfl | rfl | rfl | rfl <;> rfl) (Cup a3 b3)
  refine ⟨Cup a3 b3, call_ret (fn := f_law) (en' := [some (.lst (ns.map .int)), some (.ref 0), l, some (.lst odds), some (.tup [.str (text 7), .str (text s), .str (text s), .str (text s), .str (text (7 * 2862933555777941757 + o + 1)), .bl true]), some (.str (text s)), some (.int o), none]) rfl rfl ?_⟩
  simp only [f_law]
  refine (evSs_nx (S1 := Cup a0 b0) (en1 := [some (.lst (ns.map .int)), some (.ref 0), none, none, none, none, none, none]) ?_).trans ?_
  · simp only [evSs, evS.eq_1, evS.eq_2, evS.eq_3, evS.eq_4, evS.eq_5, evS.eq_6, evS.eq_7, evS.eq_8, evS.eq_9, evS.eq_10, evS.eq_11, evE.eq_1, evE.eq_2, evE.eq_3, evE.eq_4, evE.eq_5, evE.eq_6, evE.eq_7, evE.eq_8, evE.eq_9, evE.eq_10, evE.eq_11, evE.eq_12, evE.eq_13, evE.eq_14, evE.eq_15, evE.eq_16, evE.eq_17, evE.eq_18, evE.eq_19, evEs, evO, evC, Re.bind, lift, builtin, binop, cmpop, view, isScalar, Tg.put, Tg.puts, List.set_cons_zero, List.set_cons_succ, List.getElem?_cons_zero, List.getElem?_cons_succ, List.map_cons, List.map_nil, List.cons_append, List.nil_append, List.replicate_succ, List.replicate_zero, Option.map_some, Option.map_none, Option.bind_some, if_true, if_false, Bool.not_true, Bool.not_false, Nat.sub_self, List.length_cons, List.length_nil, Bool.false_eq_true, reduceCtorEq, decide_true, decide_false, Int.reduceLT, Int.reduceLE, Int.reduceEq, Nat.reduceLeDiff, Nat.reduceAdd, eqOk_ii, eqv_ii, eqOk_ss, eqv_ss, ltOk_ii, lt_ii, l1, l2, l3, l4, Nat.zero_add, eq_self,  Bool.and_self, Bool.and_true, Bool.true_and, List.append_nil, e0]
  refine (evSs_nx (S1 := Cup a1 b1) (en1 := [some (.lst (ns.map .int)), some (.ref 0), l, none, none, none, none, none]) ?_).trans ?_
  · exact evS_for (S1 := Cup a0 b0) (ds := [.tup [.int 0, .int 5, .int 60, .int 200]]) (by simp only [evSs, evS.eq_1, evS.eq_2, evS.eq_3, evS.eq_4, evS.eq_5, evS.eq_6, evS.eq_7, evS.eq_8, evS.eq_9, evS.eq_10, evS.eq_11, evE.eq_1, evE.eq_2, evE.eq_3, evE.eq_4, evE.eq_5, evE.eq_6, evE.eq_7, evE.eq_8, evE.eq_9, evE.eq_10, evE.eq_11, evE.eq_12, evE.eq_13, evE.eq_14, evE.eq_15, evE.eq_16, evE.eq_17, evE.eq_18, evE.eq_19, evEs, evO, evC, Re.bind, lift, builtin, binop, cmpop, view, isScalar, Tg.put, Tg.puts, List.set_cons_zero, List.set_cons_succ, List.getElem?_cons_zero, List.getElem?_cons_succ, List.map_cons, List.map_nil, List.cons_append, List.nil_append, List.replicate_succ, List.replicate_zero, Option.map_some, Option.map_none, Option.bind_some, if_true, if_false, Bool.not_true, Bool.not_false, Nat.sub_self, List.length_cons, List.length_nil, Bool.false_eq_true, reduceCtorEq, decide_true, decide_false, Int.reduceLT, Int.reduceLE, Int.reduceEq, Nat.reduceLeDiff, Nat.reduceAdd, eqOk_ii, eqv_ii, eqOk_ss, eqv_ss, ltOk_ii, lt_ii, l1, l2, l3, l4, Nat.zero_add, eq_self,  Bool.and_self, Bool.and_true, Bool.true_and, List.append_nil]) rfl rfl e1
  refine (evSs_nx (S1 := Cup a1 b1) (en1 := [some (.lst (ns.map .int)), some (.ref 0), l, some (.lst odds), none, none, none, none]) ?_).trans ?_
  · rw [evS, r_law_list]
    rfl
  refine (evSs_nx (S1 := Cup a1 b1) (en1 := [some (.lst (ns.map .int)), some (.ref 0), l, some (.lst odds), none, none, none, none]) (evS_ite_f (r_odds a1 b1 _ _) evSs_nil)).trans ?_
  refine (evSs_nx (S1 := Cup a3 b3) (en1 := [some (.lst (ns.map .int)), some (.ref 0), l, some (.lst odds), none, some (.str (text s)), some (.int o), none]) ?_).trans ?_
  · simp only [evSs, evS.eq_1, evS.eq_2, evS.eq_3, evS.eq_4, evS.eq_5, evS.eq_6, evS.eq_7, evS.eq_8, evS.eq_9, evS.eq_10, evS.eq_11, evE.eq_1, evE.eq_2, evE.eq_3, evE.eq_4, evE.eq_5, evE.eq_6, evE.eq_7, evE.eq_8, evE.eq_9, evE.eq_10, evE.eq_11, evE.eq_12, evE.eq_13, evE.eq_14, evE.eq_15, evE.eq_16, evE.eq_17, evE.eq_18, evE.eq_19, evEs, evO, evC, Re.bind, lift, builtin, binop, cmpop, view, isScalar, Tg.put, Tg.puts, List.set_cons_zero, List.set_cons_succ, List.getElem?_cons_zero, List.getElem?_cons_succ, List.map_cons, List.map_nil, List.cons_append, List.nil_append, List.replicate_succ, List.replicate_zero, Option.map_some, Option.map_none, Option.bind_some, if_true, if_false, Bool.not_true, Bool.not_false, Nat.sub_self, List.length_cons, List.length_nil, Bool.false_eq_true, reduceCtorEq, decide_true, decide_false, Int.reduceLT, Int.reduceLE, Int.reduceEq, Nat.reduceLeDiff, Nat.reduceAdd, eqOk_ii, eqv_ii, eqOk_ss, eqv_ss, ltOk_ii, lt_ii, l1, l2, l3, l4, Nat.zero_add, eq_self,  Bool.and_self, Bool.and_true, Bool.true_and, List.append_nil, e2, r_law_hex (show 1 ≤ 59 by omega), e3]
  refine (evSs_nx (S1 := Cup a3 b3) (en1 := [some (.lst (ns.map .int)), some (.ref 0), l, some (.lst odds), some (.tup [.str (text 7), .str (text s), .str (text s), .str (text s), .str (text (7 * 2862933555777941757 + o + 1)), .bl true]), some (.str (text s)), some (.int o), none]) ?_).trans ?_
  · skip
    have g1 : evE (callP prog 59) (.call "digest_of" [(.tup [])]) [some (.lst (ns.map .int)), some (.ref 0), l, some (.lst odds), none, some (.str (text s)), some (.int o), none] (Cup a3 b3) = .ok (.str (text 7)) (Cup a3 b3) := by simp only [evSs, evS.eq_1, evS.eq_2, evS.eq_3, evS.eq_4, evS.eq_5, evS.eq_6, evS.eq_7, evS.eq_8, evS.eq_9, evS.eq_10, evS.eq_11, evE.eq_1, evE.eq_2, evE.eq_3, evE.eq_4, evE.eq_5, evE.eq_6, evE.eq_7, evE.eq_8, evE.eq_9, evE.eq_10, evE.eq_11, evE.eq_12, evE.eq_13, evE.eq_14, evE.eq_15, evE.eq_16, evE.eq_17, evE.eq_18, evE.eq_19, evEs, evO, evC, Re.bind, lift, builtin, binop, cmpop, view, isScalar, Tg.put, Tg.puts, List.set_cons_zero, List.set_cons_succ, List.getElem?_cons_zero, List.getElem?_cons_succ, List.map_cons, List.map_nil, List.cons_append, List.nil_append, List.replicate_succ, List.replicate_zero, Option.map_some, Option.map_none, Option.bind_some, if_true, if_false, Bool.not_true, Bool.not_false, Nat.sub_self, List.length_cons, List.length_nil, Bool.false_eq_true, reduceCtorEq, decide_true, decide_false, Int.reduceLT, Int.reduceLE, Int.reduceEq, Nat.reduceLeDiff, Nat.reduceAdd, eqOk_ii, eqv_ii, eqOk_ss, eqv_ss, ltOk_ii, lt_ii, l1, l2, l3, l4, Nat.zero_add, eq_self,  Bool.and_self, Bool.and_true, Bool.true_and, List.append_nil, Nat.zero_le, d1]
    have g2 : evE (callP prog 59) (.call "digest_on" [(.loc 5), (.tup [])]) [some (.lst (ns.map .int)), some (.ref 0), l, some (.lst odds), none, some (.str (text s)), some (.int o), none] (Cup a3 b3) = .ok (.str (text s)) (Cup a3 b3) := by simp only [evSs, evS.eq_1, evS.eq_2, evS.eq_3, evS.eq_4, evS.eq_5, evS.eq_6, evS.eq_7, evS.eq_8, evS.eq_9, evS.eq_10, evS.eq_11, evE.eq_1, evE.eq_2, evE.eq_3, evE.eq_4, evE.eq_5, evE.eq_6, evE.eq_7, evE.eq_8, evE.eq_9, evE.eq_10, evE.eq_11, evE.eq_12, evE.eq_13, evE.eq_14, evE.eq_15, evE.eq_16, evE.eq_17, evE.eq_18, evE.eq_19, evEs, evO, evC, Re.bind, lift, builtin, binop, cmpop, view, isScalar, Tg.put, Tg.puts, List.set_cons_zero, List.set_cons_succ, List.getElem?_cons_zero, List.getElem?_cons_succ, List.map_cons, List.map_nil, List.cons_append, List.nil_append, List.replicate_succ, List.replicate_zero, Option.map_some, Option.map_none, Option.bind_some, if_true, if_false, Bool.not_true, Bool.not_false, Nat.sub_self, List.length_cons, List.length_nil, Bool.false_eq_true, reduceCtorEq, decide_true, decide_false, Int.reduceLT, Int.reduceLE, Int.reduceEq, Nat.reduceLeDiff, Nat.reduceAdd, eqOk_ii, eqv_ii, eqOk_ss, eqv_ss, ltOk_ii, lt_ii, l1, l2, l3, l4, Nat.zero_add, eq_self,  Bool.and_self, Bool.and_true, Bool.true_and, List.append_nil, Nat.zero_le, d2]
    have g3 : evE (callP prog 59) (.call "digest_joined" [(.loc 5), (.call "_law_hex" [(.cst (.int 7))]), (.cst (.int 0))]) [some (.lst (ns.map .int)), some (.ref 0), l, some (.lst odds), none, some (.str (text s)), some (.int o), none] (Cup a3 b3) = .ok (.str (text s)) (Cup a3 b3) := by simp only [evSs, evS.eq_1, evS.eq_2, evS.eq_3, evS.eq_4, evS.eq_5, evS.eq_6, evS.eq_7, evS.eq_8, evS.eq_9, evS.eq_10, evS.eq_11, evE.eq_1, evE.eq_2, evE.eq_3, evE.eq_4, evE.eq_5, evE.eq_6, evE.eq_7, evE.eq_8, evE.eq_9, evE.eq_10, evE.eq_11, evE.eq_12, evE.eq_13, evE.eq_14, evE.eq_15, evE.eq_16, evE.eq_17, evE.eq_18, evE.eq_19, evEs, evO, evC, Re.bind, lift, builtin, binop, cmpop, view, isScalar, Tg.put, Tg.puts, List.set_cons_zero, List.set_cons_succ, List.getElem?_cons_zero, List.getElem?_cons_succ, List.map_cons, List.map_nil, List.cons_append, List.nil_append, List.replicate_succ, List.replicate_zero, Option.map_some, Option.map_none, Option.bind_some, if_true, if_false, Bool.not_true, Bool.not_false, Nat.sub_self, List.length_cons, List.length_nil, Bool.false_eq_true, reduceCtorEq, decide_true, decide_false, Int.reduceLT, Int.reduceLE, Int.reduceEq, Nat.reduceLeDiff, Nat.reduceAdd, eqOk_ii, eqv_ii, eqOk_ss, eqv_ss, ltOk_ii, lt_ii, l1, l2, l3, l4, Nat.zero_add, eq_self,  Bool.and_self, Bool.and_true, Bool.true_and, List.append_nil, r_law_hex (show 1 ≤ 59 by omega), d3]
    have g4 : evE (callP prog 59) (.call "digest_joined" [(.call "_law_hex" [(.cst (.int 7))]), (.loc 5), (.cst (.int 9))]) [some (.lst (ns.map .int)), some (.ref 0), l, some (.lst odds), none, some (.str (text s)), some (.int o), none] (Cup a3 b3) = .ok (.str (text s)) (Cup a3 b3) := by simp only [evSs, evS.eq_1, evS.eq_2, evS.eq_3, evS.eq_4, evS.eq_5, evS.eq_6, evS.eq_7, evS.eq_8, evS.eq_9, evS.eq_10, evS.eq_11, evE.eq_1, evE.eq_2, evE.eq_3, evE.eq_4, evE.eq_5, evE.eq_6, evE.eq_7, evE.eq_8, evE.eq_9, evE.eq_10, evE.eq_11, evE.eq_12, evE.eq_13, evE.eq_14, evE.eq_15, evE.eq_16, evE.eq_17, evE.eq_18, evE.eq_19, evEs, evO, evC, Re.bind, lift, builtin, binop, cmpop, view, isScalar, Tg.put, Tg.puts, List.set_cons_zero, List.set_cons_succ, List.getElem?_cons_zero, List.getElem?_cons_succ, List.map_cons, List.map_nil, List.cons_append, List.nil_append, List.replicate_succ, List.replicate_zero, Option.map_some, Option.map_none, Option.bind_some, if_true, if_false, Bool.not_true, Bool.not_false, Nat.sub_self, List.length_cons, List.length_nil, Bool.false_eq_true, reduceCtorEq, decide_true, decide_false, Int.reduceLT, Int.reduceLE, Int.reduceEq, Nat.reduceLeDiff, Nat.reduceAdd, eqOk_ii, eqv_ii, eqOk_ss, eqv_ss, ltOk_ii, lt_ii, l1, l2, l3, l4, Nat.zero_add, eq_self,  Bool.and_self, Bool.and_true, Bool.true_and, List.append_nil, r_law_hex (show 1 ≤ 59 by omega), d4]
    have g5 : evE (callP prog 59) (.call "digest_of" [(.tup [(.loc 6)])]) [some (.lst (ns.map .int)), some (.ref 0), l, some (.lst odds), none, some (.str (text s)), some (.int o), none] (Cup a3 b3) = .ok (.str (text (7 * 2862933555777941757 + o + 1))) (Cup a3 b3) := by simp only [evSs, evS.eq_1, evS.eq_2, evS.eq_3, evS.eq_4, evS.eq_5, evS.eq_6, evS.eq_7, evS.eq_8, evS.eq_9, evS.eq_10, evS.eq_11, evE.eq_1, evE.eq_2, evE.eq_3, evE.eq_4, evE.eq_5, evE.eq_6, evE.eq_7, evE.eq_8, evE.eq_9, evE.eq_10, evE.eq_11, evE.eq_12, evE.eq_13, evE.eq_14, evE.eq_15, evE.eq_16, evE.eq_17, evE.eq_18, evE.eq_19, evEs, evO, evC, Re.bind, lift, builtin, binop, cmpop, view, isScalar, Tg.put, Tg.puts, List.set_cons_zero, List.set_cons_succ, List.getElem?_cons_zero, List.getElem?_cons_succ, List.map_cons, List.map_nil, List.cons_append, List.nil_append, List.replicate_succ, List.replicate_zero, Option.map_some, Option.map_none, Option.bind_some, if_true, if_false, Bool.not_true, Bool.not_false, Nat.sub_self, List.length_cons, List.length_nil, Bool.false_eq_true, reduceCtorEq, decide_true, decide_false, Int.reduceLT, Int.reduceLE, Int.reduceEq, Nat.reduceLeDiff, Nat.reduceAdd, eqOk_ii, eqv_ii, eqOk_ss, eqv_ss, ltOk_ii, lt_ii, l1, l2, l3, l4, Nat.zero_add, eq_self,  Bool.and_self, Bool.and_true, Bool.true_and, List.append_nil, d5]
    have g6 : evE (callP prog 59) (.call "is_digest" [(.bin .add (.bin .add (.cst (.str "7")) (.bin .mul (.cst (.str "f")) (.cst (.int 30)))) (.cst (.str "e")))]) [some (.lst (ns.map .int)), some (.ref 0), l, some (.lst odds), none, some (.str (text s)), some (.int o), none] (Cup a3 b3) = .ok (.bl true) (Cup a3 b3) := by (rw [evE.eq_14, evEs, c1]; simp only [Re.bind, evEs, r_good])
    rw [evS, evE.eq_11]
    simp only [evEs, g1, g2, g3, g4, g5, g6, Re.bind, List.length_cons, List.length_nil, Nat.reduceAdd, Nat.zero_add, l6, if_true, Tg.put, List.set_cons_zero, List.set_cons_succ]
  have k5 : evE (callP prog 59) (.call "_law_hex" [(.bin .add (.bin .add (.bin .mul (.cst (.int 7)) (.cst (.int 2862933555777941757))) (.loc 6)) (.cst (.int 1)))]) [some (.lst (ns.map .int)), some (.ref 0), l, some (.lst odds), some (.tup [.str (text 7), .str (text s), .str (text s), .str (text s), .str (text (7 * 2862933555777941757 + o + 1)), .bl true]), some (.str (text s)), some (.int o), none] (Cup a3 b3) = .ok (.str (text (7 * 2862933555777941757 + o + 1))) (Cup a3 b3) := by simp only [evSs, evS.eq_1, evS.eq_2, evS.eq_3, evS.eq_4, evS.eq_5, evS.eq_6, evS.eq_7, evS.eq_8, evS.eq_9, evS.eq_10, evS.eq_11, evE.eq_1, evE.eq_2, evE.eq_3, evE.eq_4, evE.eq_5, evE.eq_6, evE.eq_7, evE.eq_8, evE.eq_9, evE.eq_10, evE.eq_11, evE.eq_12, evE.eq_13, evE.eq_14, evE.eq_15, evE.eq_16, evE.eq_17, evE.eq_18, evE.eq_19, evEs, evO, evC, Re.bind, lift, builtin, binop, cmpop, view, isScalar, Tg.put, Tg.puts, List.set_cons_zero, List.set_cons_succ, List.getElem?_cons_zero, List.getElem?_cons_succ, List.map_cons, List.map_nil, List.cons_append, List.nil_append, List.replicate_succ, List.replicate_zero, Option.map_some, Option.map_none, Option.bind_some, if_true, if_false, Bool.not_true, Bool.not_false, Nat.sub_self, List.length_cons, List.length_nil, Bool.false_eq_true, reduceCtorEq, decide_true, decide_false, Int.reduceLT, Int.reduceLE, Int.reduceEq, Nat.reduceLeDiff, Nat.reduceAdd, eqOk_ii, eqv_ii, eqOk_ss, eqv_ss, ltOk_ii, lt_ii, l1, l2, l3, l4, Nat.zero_add, eq_self,  Bool.and_self, Bool.and_true, Bool.true_and, List.append_nil, hm, r_law_hex (show 1 ≤ 59 by omega)]
  have k2 : evE (callP prog 59) (.loc 5) [some (.lst (ns.map .int)), some (.ref 0), l, some (.lst odds), some (.tup [.str (text 7), .str (text s), .str (text s), .str (text s), .str (text (7 * 2862933555777941757 + o + 1)), .bl true]), some (.str (text s)), some (.int o), none] (Cup a3 b3) = .ok (.str (text s)) (Cup a3 b3) := by simp only [evSs, evS.eq_1, evS.eq_2, evS.eq_3, evS.eq_4, evS.eq_5, evS.eq_6, evS.eq_7, evS.eq_8, evS.eq_9, evS.eq_10, evS.eq_11, evE.eq_1, evE.eq_2, evE.eq_3, evE.eq_4, evE.eq_5, evE.eq_6, evE.eq_7, evE.eq_8, evE.eq_9, evE.eq_10, evE.eq_11, evE.eq_12, evE.eq_13, evE.eq_14, evE.eq_15, evE.eq_16, evE.eq_17, evE.eq_18, evE.eq_19, evEs, evO, evC, Re.bind, lift, builtin, binop, cmpop, view, isScalar, Tg.put, Tg.puts, List.set_cons_zero, List.set_cons_succ, List.getElem?_cons_zero, List.getElem?_cons_succ, List.map_cons, List.map_nil, List.cons_append, List.nil_append, List.replicate_succ, List.replicate_zero, Option.map_some, Option.map_none, Option.bind_some, if_true, if_false, Bool.not_true, Bool.not_false, Nat.sub_self, List.length_cons, List.length_nil, Bool.false_eq_true, reduceCtorEq, decide_true, decide_false, Int.reduceLT, Int.reduceLE, Int.reduceEq, Nat.reduceLeDiff, Nat.reduceAdd, eqOk_ii, eqv_ii, eqOk_ss, eqv_ss, ltOk_ii, lt_ii, l1, l2, l3, l4, Nat.zero_add, eq_self,  Bool.and_self, Bool.and_true, Bool.true_and, List.append_nil]
  have k4 : evE (callP prog 59) (.loc 4) [some (.lst (ns.map .int)), some (.ref 0), l, some (.lst odds), some (.tup [.str (text 7), .str (text s), .str (text s), .str (text s), .str (text (7 * 2862933555777941757 + o + 1)), .bl true]), some (.str (text s)), some (.int o), none] (Cup a3 b3) = .ok (.tup [.str (text 7), .str (text s), .str (text s), .str (text s), .str (text (7 * 2862933555777941757 + o + 1)), .bl true]) (Cup a3 b3) := by simp only [evSs, evS.eq_1, evS.eq_2, evS.eq_3, evS.eq_4, evS.eq_5, evS.eq_6, evS.eq_7, evS.eq_8, evS.eq_9, evS.eq_10, evS.eq_11, evE.eq_1, evE.eq_2, evE.eq_3, evE.eq_4, evE.eq_5, evE.eq_6, evE.eq_7, evE.eq_8, evE.eq_9, evE.eq_10, evE.eq_11, evE.eq_12, evE.eq_13, evE.eq_14, evE.eq_15, evE.eq_16, evE.eq_17, evE.eq_18, evE.eq_19, evEs, evO, evC, Re.bind, lift, builtin, binop, cmpop, view, isScalar, Tg.put, Tg.puts, List.set_cons_zero, List.set_cons_succ, List.getElem?_cons_zero, List.getElem?_cons_succ, List.map_cons, List.map_nil, List.cons_append, List.nil_append, List.replicate_succ, List.replicate_zero, Option.map_some, Option.map_none, Option.bind_some, if_true, if_false, Bool.not_true, Bool.not_false, Nat.sub_self, List.length_cons, List.length_nil, Bool.false_eq_true, reduceCtorEq, decide_true, decide_false, Int.reduceLT, Int.reduceLE, Int.reduceEq, Nat.reduceLeDiff, Nat.reduceAdd, eqOk_ii, eqv_ii, eqOk_ss, eqv_ss, ltOk_ii, lt_ii, l1, l2, l3, l4, Nat.zero_add, eq_self,  Bool.and_self, Bool.and_true, Bool.true_and, List.append_nil]
  refine evSs_ret (evS_ret ?_)
  rw [evE.eq_14]
  simp only [evEs, k4, evE.eq_11, c2, k2, k5, evE.eq_1, Re.bind, List.length_cons, List.length_nil, Nat.reduceAdd, Nat.zero_add, l6, if_true, sm]
theorem law_runs : ∃ P, progO = some P ∧ ∀ ns : List Int, ns.length ≤ 63 → ∃ S', callP P 60 "law" [.lst (ns.map D.int)] [] = .ok (.bl true) S' := ⟨prog, eq_prog, r_law⟩

end LyLaw


set_option maxHeartbeats 0
namespace LyLaw
open PySem PySem.Spec PyProof.Rows L2 Ly
abbrev R : PySem.W.OpenRow := PySem.W.OpenLaw.row PySem.Challenge.rw_layersheld_k18_whole_digests_of_octets
abbrev fa : List He.Fa := faOf glob
abbrev fn : List He.DefD := fnOf' body itemsL
abbrev hk : PySem.W.Hook := He.hookD 3 fa fn
def ob (s : PySem.W.SharedT) : He.AlD := He.obsDG 3 fa fn (HandSHeadRun.getT s)
theorem ob_eq (s : PySem.W.SharedT) : ob s = hk.obs s.abs := He.obsDG_eq (HandSHeadRun.getT_eq s)
def loose0 : List PySem.Str := ["LayerError", "InvalidNumber", "InvalidOctets", "InvalidDigest", "is_whole", "is_tuple_of", "fits_octets", "PRIME", "STEP", "BEGIN", "OCTETS", "MANY", "SIZE", "HEX", "state_on", "power_of", "text_of", "state_of", "digest_in", "fits_digest"]
def loose1 : List PySem.Str := ["need_digest", "need_octets", "is_digest", "digest_of", "digest_on", "digest_joined", "_law_cup", "_law_roll", "_law_same", "_law_some", "_law_file", "_law_state", "_law_hex", "_law_digest", "_law_power", "_law_right"]
abbrev loose : List PySem.Str := loose0 ++ loose1
theorem run (w : World) : HandSHeadRun.RunEq R (PySem.W.view R.prog [40]) hk ob 2000 loose w := by
  intro os
  kernel_rfl
end LyLaw
open PySem PySem.W PySem.Calls PyProof.Rows
theorem PySem.Challenge.cw_layersheld_k18_whole_digests_of_octets_holds : PySem.Challenge.rw_layersheld_k18_whole_digests_of_octets.Holds := by
  w_on; o_law
  refine HandSHeadRun.head_any (r := OpenLaw.row PySem.Challenge.rw_layersheld_k18_whole_digests_of_octets) (q := view (OpenLaw.row PySem.Challenge.rw_layersheld_k18_whole_digests_of_octets).prog [40]) (H := LyLaw.hk) (ob := LyLaw.ob) (M := 2000) (loose := LyLaw.loose) (d := HandSHeadRun.topDef (OpenLaw.row PySem.Challenge.rw_layersheld_k18_whole_digests_of_octets).prog 40) (kwd := []) LyLaw.ob_eq
    (by kernel_rfl) (fun s => by kernel_rfl) LyLaw.run (by kernel_rfl) (by kernel_rfl) (by kernel_rfl) (by rfl) (by first | assumption | decide +kernel) (by decide +kernel) ⟨rfl, rfl, rfl, rfl, rfl, by decide +kernel⟩ ?hw ?hc
  case hw => w_witness2
  case hc =>
    obtain ⟨P, hP, hl⟩ := LyLaw.law_runs
    exact Ly.law_walk (l := PySem.Challenge.rw_layersheld_k18_whole_digests_of_octets) (G := LyLaw.glob) (items := LyLaw.itemsL) (P := P) (k := 60) (n := 63) (xs := "script") (m := 25) rfl (by decide) (by kernel_rfl) ⟨rfl, by decide, by decide⟩ hP (by decide +kernel) (by kernel_rfl) (by decide +kernel) (by rfl) (by rfl) (by kernel_rfl) hl

